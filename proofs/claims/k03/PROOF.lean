import PyProof.Rows.All
import Wide.All
import OpenK.AllK
import Wide.FinOn
import HandS.ForMost
import HandS.ForExc
import HandS.IsInst
import HandS.Wide
import HandS.TryOnly
import HandS.Codes
import HandS.Style
import HandS.ExcInit
import HandS.ExcField
import HandS.TupAny
import HandS.Conv
import HandS.ExcIs
import KE.KExcIs
import PySem.Challenge.RW_ownchain_k03_where_it_is_none
set_option Elab.async false
set_option linter.all false
set_option maxRecDepth 100000
set_option maxHeartbeats 8000000
set_option Elab.async false
set_option linter.all false
set_option maxRecDepth 100000
set_option maxHeartbeats 4000000
/-! Step lemmas over the hand layer's readings: each goal of a reading is turned by one lemma. -/
namespace Z
open PySem PySem.Spec PyProof.Rows L2

abbrev kS (s : Str) : Key := Sum.inr s
abbrev kI (i : Int) : Key := Sum.inl i
/-! ### universal rules: by the values -/
section
variable {X : Cx}
def rFdv : R2 := rI (fun _ j => j ≠ 0 ∧ j.natAbs.log2 < 9000) fun i j => .int (i.fdiv j)
theorem op_fdv : OpR X (binaryOp .FloorDiv) rFdv := opI fun i j _ _ _ _ _ hc q => floordiv_int hc.1 q (.inl (PyProof.noPylong_of_log2 hc.2))
def rMod : R2 := rI (fun _ j => j ≠ 0) fun i j => .int (i.fmod j)
theorem op_md : OpR X (binaryOp .Mod) rMod := op_modN
def rMul : R2 := rI (fun i j => CMul i j ∨ CMulW i j) fun i j => .int (i * j)
theorem op_ml : OpR X (binaryOp .Mult) rMul := opI fun _ _ _ _ _ _ _ hc q => mul_int q (hc.elim CMul.ok CMulW.ok)
def rAddI : R2 := rI0 fun i j => .int (i + j)
def rAddS : R2 := fun x y H Q => ∃ i j, x = .str i ∧ y = .str j ∧ i.length + j.length ≤ sizeLine ∧ Q (.str (i ++ j)) H
def rAddU (K : PySem.W.Frag) : R2 := fun x y H Q => rAddI x y H Q ∨ rAddS x y H Q ∨ rCat x y H Q ∨ rCatA K x y H Q
theorem op_addU : OpR X (binaryOp .Add) (rAddU X.K) := OpR.or op_add (OpR.or op_add_str (OpR.or op_cat op_catA))
def rLenE (b : Bool) : R2 := fun x y H Q => ∃ p q xs ys, x = .ref p ∧ y = .ref q ∧ H p = some (.lst xs) ∧ H q = some (.lst ys) ∧ xs.length ≠ ys.length ∧ Q (.bl b) H
theorem lens_of {pins : List (Addr × Obj)} {σ : L2.St} {H : Hp} {s : Shared} {p q : Addr} {xs ys : List V} (I : Inv X pins σ H s) (h1 : H p = some (.lst xs)) (h2 : H q = some (.lst ys)) (hn : xs.length ≠ ys.length) :
    ∃ i1 i2 : Array Value, s.heap.IsList p i1 ∧ s.heap.IsList q i2 ∧ (i1.size != i2.size) = true := by
  obtain ⟨_, a, n, _, la, ea⟩ := I.lstM h1
  obtain ⟨_, b, m, _, lb, eb⟩ := I.lstM h2
  refine ⟨a.toArray, b.toArray, ⟨_, ea, rfl, n, rfl⟩, ⟨_, eb, rfl, m, rfl⟩, ?_⟩
  rw [List.size_toArray, List.size_toArray, ← la, ← lb]
  simpa using hn
theorem op_eqLen (hu : X.A.units + 64 < cLine) : OpR X (compareOp .Eq) (rLenE false) := fun pins s σ H x y v u Q I rx ry h => by
  obtain ⟨p, q, xs, ys, rfl, rfl, h1, h2, hn, k⟩ := h
  obtain rfl : v = Value.ref p := rx
  obtain rfl : u = Value.ref q := ry
  obtain ⟨i1, i2, a, b, c⟩ := lens_of I h1 h2 hn
  exact PySem.SeqAt.RcAt.lists_lengths a b c (by omega) X.prog X.w X.xe _ ⟨.bl false, H, I, rfl, k⟩
theorem op_neLen (hu : X.A.units + 64 < cLine) : OpR X (compareOp .NotEq) (rLenE true) := fun pins s σ H x y v u Q I rx ry h => by
  obtain ⟨p, q, xs, ys, rfl, rfl, h1, h2, hn, k⟩ := h
  obtain rfl : v = Value.ref p := rx
  obtain rfl : u = Value.ref q := ry
  obtain ⟨i1, i2, a, b, c⟩ := lens_of I h1 h2 hn
  exact PySem.SeqAt.RcNeAt.lists_lengths a b c (by omega) X.prog X.w X.xe _ ⟨.bl true, H, I, rfl, k⟩
def rEqU (K : PySem.W.Frag) : R2 := fun x y H Q => rEq x y H Q ∨ rEqD K x y H Q ∨ rLenE false x y H Q
theorem op_eqU (hu : X.A.units + 64 < cLine) : OpR X (compareOp .Eq) (rEqU X.K) := OpR.or op_eq (OpR.or (op_eqD hu) (op_eqLen hu))
def rNeU (K : PySem.W.Frag) : R2 := fun x y H Q => rNe x y H Q ∨ rNeD K x y H Q ∨ rLenE true x y H Q
theorem op_neU (hu : X.A.units + 64 < cLine) : OpR X (compareOp .NotEq) (rNeU X.K) := OpR.or op_ne (OpR.or (op_neD hu) (op_neLen hu))
def rSlU (K : PySem.W.Frag) : V → Option Int → Option Int → Hp → VK → Prop := fun x lo hi H Q => rSlL K x lo hi H Q ∨ rSlA K x lo hi H Q
theorem sl_U : SlR X (rSlU X.K) := SlR.or sl_list sl_tupA
def rLen (K : PySem.W.Frag) : List V → Hp → VK → Prop := fun xs H Q => ∃ x n, xs = [x] ∧ LenV K x H n ∧ Q (.int (n : Nat)) H
theorem call_len' : CallR X (.builtin "len") (rLen X.K) := call_len
theorem pe_powc {b n z : Int} {k k' : Nat} {p p' pos : Pos} (hc : CPow b n) (h : b ^ n.toNat = z) : PE X (.BinOp (.Constant (.int b) k p) .Pow (.Constant (.int n) k' p') pos) (tC (.int z)) :=
  ⟨fun pins s σ H Q I q => (pe_op op_pow pe_int pe_int).run pins s σ H Q I ⟨b, n, rfl, rfl, hc, by show Q (.int (b ^ n.toNat)) H; rw [h]; exact q⟩⟩
def rMin2 : List V → Hp → VK → Prop := fun xs H Q => ∃ i j, xs = [.int i, .int j] ∧ Q (.int (if j < i then j else i)) H
theorem call_min' (hc : X.calm = true) : CallR X (.builtin "min") rMin2 := call_min2 hc
def rMax2 : List V → Hp → VK → Prop := fun xs H Q => ∃ i j, xs = [.int i, .int j] ∧ Q (.int (if j > i then j else i)) H
theorem call_max' (hc : X.calm = true) : CallR X (.builtin "max") rMax2 := call_max2 hc
def rListOf (K : PySem.W.Frag) : List V → Hp → VK → Prop := fun xs H Q => ∃ p ys, xs = [.ref p] ∧ (SqL K H p ys ∨ SqT K H p ys) ∧ ∀ l, H l = none → Q (.ref l) (upd H l (.lst ys))
theorem call_list' : CallR X (.type "list") (rListOf X.K) := call_list_of
def rTupOf (K : PySem.W.Frag) : List V → Hp → VK → Prop := fun xs H Q => ∃ p ys, xs = [.ref p] ∧ ((SqL K H p ys ∧ ∀ l, H l = none → Q (.ref l) (upd H l (.tup ys))) ∨ (SqT K H p ys ∧ Q (.ref p) H))
theorem call_tuple' : CallR X (.type "tuple") (rTupOf X.K) := call_tuple_of
def rInt1 : List V → Hp → VK → Prop := fun xs H Q => (∃ i, xs = [.int i] ∧ Q (.int i) H) ∨ ∃ k, xs = [.bl k] ∧ Q (.int (if k then 1 else 0)) H
theorem call_int' : CallR X (.type "int") rInt1 := call_int1
def rAbs : List V → Hp → VK → Prop := fun xs H Q => ∃ i, xs = [.int i] ∧ Q (.int (if i < 0 then -i else i)) H
theorem call_abs' : CallR X (.builtin "abs") rAbs := call_abs
def rStrI : List V → Hp → VK → Prop := fun xs H Q => ∃ i, xs = [.int i] ∧ i.natAbs.log2 < 1920 ∧ Q (.str (toString i)) H
theorem call_str' : CallR X (.type "str") rStrI := call_str_int
def rIsNz : R2 := fun x y H Q => y = .non ∧ Q (.bl (decide (x = .non))) H
theorem op_isNz : OpR X (compareOp .Is) rIsNz := op_isN
def rNotNz : R2 := fun x y H Q => y = .non ∧ Q (.bl (!decide (x = .non))) H
theorem op_notNz : OpR X (compareOp .IsNot) rNotNz := op_notN
/-- a, b = a tuple or a list -/
def gUn (K : PySem.W.Frag) (n : Nat) (t : TGs) : TG := fun v σ H Q => gTup K n t v σ H Q ∨ gLst K n t v σ H Q
theorem pg_un {pos : Pos} {es : List Expr} {k : Nat} {t : TGs} {n : Nat} (hc : X.calm = true) (h : PGs X es t)
    (hn : (assignEach es X.env).length = n := by rfl) (hst : (assignEach es X.env).findIdx? (·.1) = none := by rfl) : PG X (.Tuple es k pos) (gUn X.K n t) :=
  ⟨fun pins s σ H v u Q I r hw => hw.elim (fun z => (pg_tup hc h hn hst).run pins s σ H v u Q I r z) fun z => (pg_lst hc h hn hst).run pins s σ H v u Q I r z⟩
def rIsi2 (K : PySem.W.Frag) : List V → Hp → VK → Prop := fun xs H Q => rIsi K xs H Q ∨ rIsiT K xs H Q
theorem call_isi' : CallR X (.builtin "isinstance") (rIsi2 X.K) := fun pins s σ H vs us Q I r h => h.elim (fun z => call_isi pins s σ H vs us Q I r z) (fun z => call_isiT pins s σ H vs us Q I r z)
end

def rJoin (K : PySem.W.Frag) : V → List V → Hp → VK → Prop := fun x xs H Q => ∃ a p, ∃ ys : List Str, x = .str a ∧ xs = [.ref p] ∧ (SqL K H p (ys.map V.str) ∨ SqT K H p (ys.map V.str)) ∧
  (ys.map (·.length)).sum + ys.length * a.length ≤ 16777216 ∧ Q (.str (Txt.join a ys)) H
def rWords : V → List V → Hp → VK → Prop := fun x xs H Q => ∃ a, x = .str a ∧ xs = [] ∧ a.length + 2 ≤ sizeLine ∧ rNewStrs (Txt.words a) H Q
def rSplit : V → List V → Hp → VK → Prop := fun x xs H Q => ∃ a b, x = .str a ∧ xs = [.str b] ∧ (b.length == 0) = false ∧ a.length + 2 ≤ sizeLine ∧ rNewStrs (Txt.split a b) H Q
def rUpper : V → List V → Hp → VK → Prop := fun x xs H Q => ∃ a, x = .str a ∧ xs = [] ∧ a.length ≤ 5592405 ∧ Q (.str (Txt.upper a)) H
def rRstrip : V → List V → Hp → VK → Prop := fun x xs H Q => ∃ a, x = .str a ∧ xs = [] ∧ a.length ≤ sizeLine ∧ Q (.str (Txt.rstrip a)) H
def rStrip : V → List V → Hp → VK → Prop := fun x xs H Q => ∃ a, x = .str a ∧ xs = [] ∧ a.length ≤ sizeLine ∧ Q (.str (Txt.strip a)) H
theorem sqT_mk {K : PySem.W.Frag} {H : Hp} {a : Addr} {xs : List V} {its : Array Value} {n : Nat} {od : Option Addr} {sl : Array (Option Value)} (l : K.lookup a = some ⟨.type "tuple", od, .seq its n, sl⟩) (hz : its.size ≤ 1000) (v : Vals xs its.toList) : SqT K H a xs :=
  .inr ⟨_, its, n, l, rfl, rfl, Nat.le_trans hz (by decide), v⟩

theorem at_ofN {α : Type} {xs : List α} {z : Int} {j : Nat} {v : α} (e : z = (j : Int)) (h : xs[j]? = some v) : atI xs z = some v := by
  rw [e]
  exact atI_nat h
/-! ### own functions without arguments, methods, made instances: what they may let out at the slots -/
section
open PySem.Calls
variable {X : Cx} {CX : CXT} {k : Nat} {f C : Addr} {fd : FuncData} {ps : List Str} {sp : Sp} {E : L2.St → XK} {x m : Str} {p pos apos : Pos} {e o : Expr} {es : List Expr} {ta : TE} {t : TA}
theorem pe_call0Z (F : FnOk X.prog X.w X.K X.mg X.base CX k f fd ps sp) (hr : Room k X.A) (hg : Gl X x) (hm : X.mg x = some (.ref f)) (hk : PySem.W.keepIn X.K (.ref f) = true) (hb : Binds X.K fd ps []) (hx : ∀ σ, PassesAt CX X σ (E σ))
    (hdb : (x == ("__debug__" : Str)) = false := by decide) : PE X (.Call (.Name x p) [] [] pos) (tCallS sp E tNil) := by
  refine ⟨fun pins s σ H Q I h => ?_⟩
  refine wpAny_Call_Name_kw (ld_glob I hg hm ?_ hdb)
  exact PySem.W.callWith_K0 I.kIn hk (run_fnS (us := []) F hr hb (hx σ) I .nil h)
def zSelf (C : Addr) (m : Str) (x : V) (H : Hp) (N : Prop) : Prop := ∃ a dx fs, x = .ref a ∧ H a = some (.ins C dx fs) ∧ fs.lookup m = none ∧ N
def tMethZ (C : Addr) (m : Str) (sp : Sp) (E : L2.St → XK) (ta : TE) (t : TA) : TE := fun σ H Q => ta σ H fun x H1 => ∃ a dx fs, x = .ref a ∧ H1 a = some (.ins C dx fs) ∧ fs.lookup m = none ∧ t σ H1 fun vs H2 => sp (x :: vs) H2 Q (E σ)
theorem pe_methZ {pl : Sem Bool} (he : PE X o ta) (c : Cls X.K C) (hm : Meth X.K C m f) (F : FnOk X.prog X.w X.K X.mg X.base CX k f fd ps sp) (hr : Room k X.A) (hb : Binds X.K fd ps []) (hx : ∀ σ, PassesAt CX X σ (E σ)) (ha : PA X (e :: es) t)
    (hst : starEach (e :: es) X.env = (false, eval e X.env) :: starEach es X.env := by rfl) (hpl : (backTo pos (starEach es X.env)).any (·.1) = false := by rfl)
    (ht : eval (.Call (.Attribute o m apos) (e :: es) [] pos) X.env = (do
      let ov ← eval o X.env
      standAt apos.atName
      let (f, first) ← holding [ov] (getMethod ov m pl)
      callWith pos f first (backTo pos (starEach (e :: es) X.env)) (backToKw pos (keywordEach [] X.env))) := by rfl) :
    PE X (.Call (.Attribute o m apos) (e :: es) [] pos) (tMethZ C m sp E ta t) := by
  refine ⟨fun pins s σ H Q I h => ?_⟩
  refine PySem.W.methodCall_KW (pl := pl) (thn (he.run pins s σ H _ I h) fun u s1 ⟨x, H1, I1, rx, a, dx, fs, ex, ea, l, q⟩ => ?_) ht
  subst ex
  obtain rfl : u = Value.ref a := rx
  refine getmeth_ok I1 ea c hm l ?_
  refine PySem.W.callWith_K (first := [.ref a]) (h₀ := X.base) I.ok.mod.kin hm.kp (thn (ha.run pos pins s1 σ H1 _ I1 q) fun us s2 ⟨vs, H2, I2, r, q2⟩ => ⟨I2.kIn, ?_⟩) hst hpl
  exact run_fnS (us := .ref a :: us) (vs := .ref a :: vs) F hr hb (hx σ) I2 (.cons rfl r) q2
theorem pe_meth0Z {pl : Sem Bool} (he : PE X o ta) (c : Cls X.K C) (hm : Meth X.K C m f) (F : FnOk X.prog X.w X.K X.mg X.base CX k f fd ps sp) (hr : Room k X.A) (hb : Binds X.K fd ps []) (hx : ∀ σ, PassesAt CX X σ (E σ))
    (ht : eval (.Call (.Attribute o m apos) [] [] pos) X.env = (do
      let ov ← eval o X.env
      standAt apos.atName
      let (f, first) ← holding [ov] (getMethod ov m pl)
      callWith pos f first (backTo pos (starEach [] X.env)) (backToKw pos (keywordEach [] X.env))) := by rfl) :
    PE X (.Call (.Attribute o m apos) [] [] pos) (tMethZ C m sp E ta tNil) := by
  refine ⟨fun pins s σ H Q I h => ?_⟩
  refine PySem.W.methodCall_KW (pl := pl) (thn (he.run pins s σ H _ I h) fun u s1 ⟨x, H1, I1, rx, a, dx, fs, ex, ea, l, q⟩ => ?_) ht
  subst ex
  obtain rfl : u = Value.ref a := rx
  refine getmeth_ok I1 ea c hm l ?_
  exact PySem.W.callWith_K0 (first := [.ref a]) I1.kIn hm.kp (run_fnS (us := [.ref a]) (vs := [.ref a]) F hr hb (hx σ) I1 (.cons rfl .nil) q)
def tMakeZ (C : Addr) (sp : Sp) (E : L2.St → XK) (t : TA) : TE := fun σ H Q => t σ H fun vs H1 => ∀ x dx, H1 x = none → H1 dx = none → dx ≠ x →
  sp (.ref x :: vs) (upd (upd H1 dx (.own x)) x (.ins C dx [])) (fun v H2 => v = .non ∧ Q (.ref x) H2) (E σ)
theorem run_makeZ {pins : List (Addr × Obj)} {σ : L2.St} {H : Hp} {s : Shared} {Q : VK} {us : List Value} {vs : List V} {E : XK} (M : Mk X.K C f) (F : FnOk X.prog X.w X.K X.mg X.base CX k f fd ps sp) (hr : Room (k + 1) X.A) (hb : Binds X.K fd ps [])
    (hx : PassesAt CX X σ E) (I : Inv X pins σ H s) (r : Vals vs us)
    (h : ∀ x dx, H x = none → H dx = none → dx ≠ x → sp (.ref x :: vs) (upd (upd H dx (.own x)) x (.ins C dx [])) (fun v H2 => v = .non ∧ Q (.ref x) H2) E) :
    wpAny (model X.prog X.w) X.A (call (.ref C) us) (EP X pins σ Q) X.xe s := by
  have hq := h (s.heap.objs.size + 1) s.heap.objs.size (I.hok.fresh (Nat.le_succ _)) (I.hok.fresh (Nat.le_refl _)) (Nat.ne_of_lt (Nat.lt_succ_self _))
  have I2 := Inv.made (C := C) I
  have r2 : Vals (V.ref (s.heap.objs.size + 1) :: vs) (Value.ref (s.heap.objs.size + 1) :: us) := .cons rfl r
  have hl : (Value.ref (s.heap.objs.size + 1) :: us).length = ps.length := by rw [← r2.length]; exact F.len _ _ _ _ hq
  have b := hb _ (Value.ref (s.heap.objs.size + 1) :: us) I2.kIn (by rw [List.append_nil]; exact hl)
  rw [List.append_nil] at b
  refine wpAny_call (make_map (f := f) I.kIn M.makes M.init (beq_iff_eq.mp M.fn) (codeAny_mono (F.run _ X.stack _ _ ⟨Value.ref (s.heap.objs.size + 1) :: us, []⟩ (Value.ref (s.heap.objs.size + 1) :: us) _ _ E (hr.make C us [])
    (I2.env0.make C us []) b r2 hq) fun r s' hq' => ?_))
  cases r with
  | error e => exact hx pins _ _ e s' I2 hq'
  | ok fl =>
    cases fl with
    | ret u =>
      obtain ⟨v, H', I3, rv, ev, q3⟩ := I2.after hq'
      subst ev
      exact ⟨rv, ⟨V.ref (s.heap.objs.size + 1), H', I3, rfl, q3⟩⟩
    | next => exact False.elim hq'
    | brk => exact False.elim hq'
    | cont => exact False.elim hq'
theorem pe_makeZ (M : Mk X.K C f) (F : FnOk X.prog X.w X.K X.mg X.base CX k f fd ps sp) (hr : Room (k + 1) X.A) (hg : Gl X x) (hm : X.mg x = some (.ref C)) (hb : Binds X.K fd ps []) (hx : ∀ σ, PassesAt CX X σ (E σ))
    (ha : PA X (e :: es) t) (hdb : (x == ("__debug__" : Str)) = false := by decide) (he : starEach (e :: es) X.env = (false, eval e X.env) :: starEach es X.env := by rfl) (hpl : (backTo pos (starEach es X.env)).any (·.1) = false := by rfl) :
    PE X (.Call (.Name x p) (e :: es) [] pos) (tMakeZ C sp E t) := by
  refine ⟨fun pins s σ H Q I h => ?_⟩
  refine wpAny_Call_Name_kw (ld_glob I hg hm ?_ hdb)
  refine PySem.W.callWith_K (h₀ := X.base) I.ok.mod.kin M.kp (thn (ha.run pos pins s σ H _ I h) fun us s1 ⟨vs, H1, I1, r, q⟩ => ⟨I1.kIn, ?_⟩) he hpl
  exact run_makeZ M F hr hb (hx σ) I1 r q
theorem pe_make0Z (M : Mk X.K C f) (F : FnOk X.prog X.w X.K X.mg X.base CX k f fd ps sp) (hr : Room (k + 1) X.A) (hg : Gl X x) (hm : X.mg x = some (.ref C)) (hb : Binds X.K fd ps []) (hx : ∀ σ, PassesAt CX X σ (E σ))
    (hdb : (x == ("__debug__" : Str)) = false := by decide) : PE X (.Call (.Name x p) [] [] pos) (tMakeZ C sp E tNil) := by
  refine ⟨fun pins s σ H Q I h => ?_⟩
  refine wpAny_Call_Name_kw (ld_glob I hg hm ?_ hdb)
  exact PySem.W.callWith_K0 I.kIn M.kp (run_makeZ (us := []) M F hr hb (hx σ) I .nil h)
/-- a statement that is never come to -/
def zNever : TS := fun _ _ _ => False
theorem ps_zNever {st : Stmt} : PS X st zNever := ⟨fun _ _ _ _ _ _ h => h.elim⟩
end
theorem lk_eq {f : Str} {v : V} {r : List (Str × V)} : List.lookup f ((f, v) :: r) = some v := by simp [List.lookup]
theorem lk_ne {f g : Str} {v : V} {r : List (Str × V)} (h : ¬ f = g) : List.lookup f ((g, v) :: r) = List.lookup f r := by
  have : (f == g) = false := by simpa using h
  simp [List.lookup, this]
theorem pu_eq {f : Str} {y v : V} {r : List (Str × V)} : putF f y ((f, v) :: r) = (f, y) :: r := if_pos rfl
theorem pu_ne {f g : Str} {y v : V} {r : List (Str × V)} (h : ¬ g = f) : putF f y ((g, v) :: r) = (g, v) :: putF f y r := if_neg h
theorem pu_nil {f : Str} {y : V} : putF f y [] = [(f, y)] := rfl

/-! ### own exceptions -/
section
open PySem.Calls
variable {X : Cx} {e : Expr} {es : List Expr} {ta : TA} {p1 p2 pos : Pos} {D : Addr} {n : Str}
/-- D.__init__(self, ..), D an own class over ValueError without an __init__ of its own -/
theorem pe_cinit {pl : Sem Bool} (hg : Gl X n) (hm : X.mg n = some (.ref D)) (hr : PySem.W.readsIn X.K D (.type "type") = true) (hs : PySem.W.specialIn X.K (.ref D) "__getattribute__" = some (some (.builtin "type.__getattribute__")))
    (hv : PySem.W.findCls X.K (.ref D) (.type "type") "__init__" = some (.val (.builtin "ValueError.__init__"))) (ha : PA X (e :: es) ta) (hdb : (n == ("__debug__" : Str)) = false := by decide)
    (hc : eval (.Call (.Attribute (.Name n p1) "__init__" p2) (e :: es) [] pos) X.env = (do
      let ov ← eval (.Name n p1) X.env
      standAt p2.atName
      let (f, first) ← holding [ov] (getMethod ov "__init__" pl)
      callWith pos f first (backTo pos (starEach (e :: es) X.env)) (backToKw pos (keywordEach [] X.env))) := by rfl)
    (he : starEach (e :: es) X.env = (false, eval e X.env) :: starEach es X.env := by rfl) (hpl : (backTo pos (starEach es X.env)).any (·.1) = false := by rfl) :
    PE X (.Call (.Attribute (.Name n p1) "__init__" p2) (e :: es) [] pos) (tVeI X.K ta) := by
  refine ⟨fun pins s σ H Q I h => ?_⟩
  refine PySem.W.methodCall_KW (ld_glob I hg hm ?_ hdb) hc
  refine PySem.W.method_cls I.kIn hs (PySem.W.cls_value I.kIn hr hv (by decide +kernel) ?_)
  show wpAny _ _ (callWith pos (Value.builtin "ValueError.__init__") [] (backTo pos (starEach (e :: es) X.env)) []) _ _ _
  refine PyProof.Rows.callWith_method1 (thn (ha.run pos pins _ σ H _ (I.tok _) h) fun us s1 ⟨vs, H1, I1, r1, a, C, ws, ev, hl, T, ea, q⟩ => ?_) he hpl
  subst ev
  cases r1 with
  | @cons _ u0 _ ur ra rw' =>
    obtain rfl : u0 = Value.ref a := ra
    have hlen : ur.length ≤ sizeLine := by
      rw [← Paired.length rw', sizeLine_eq]
      omega
    exact oinit_ok T I1 ea hlen fun s' J => ⟨.non, H1, J, rfl, q⟩
/-- raise C(..) with an __init__ of its own -/
def sRaiseO (C : Addr) (sp : Sp) (W : WX) (ta : TA) : TS := fun _ σ H => tMkO C sp [] ta σ H fun cls d H' => W cls d σ H'
theorem ps_raiseO {CX : CXT} {W : WX} {x : Str} {C fI : Addr} {k : Nat} {fd : FuncData} {ps : List Str} {sp : Sp} {p pos' : Pos} (hcalm : X.calm = true) (tk : Takes X W) (T : OexC X.K C) (iC : PySem.W.findIn X.K (.ref C) "__init__" = some (some (.ref fI))) (tI : PySem.W.typeIn X.K (.ref fI) = some (.type "function"))
    (F1 : FnOk X.prog X.w X.K X.mg X.base CX k fI fd ps sp) (hr : Room (k + 1) X.A) (hb : Binds X.K fd ps []) (hx : Passes CX X (fun _ _ _ => False)) (hg : Gl X x) (hm : X.mg x = some (.ref C)) (ha : PA X (e :: es) ta)
    (hdb : (x == ("__debug__" : Str)) = false := by decide) (he : starEach (e :: es) X.env = (false, eval e X.env) :: starEach es X.env := by rfl) (hpl : (backTo pos (starEach es X.env)).any (·.1) = false := by rfl) :
    PS X (.Raise (some (.Call (.Name x p) (e :: es) [] pos)) none pos') (sRaiseO C sp W ta) :=
  ps_raise hcalm tk (pmk_oex T iC tI F1 hr hb .nil hx hg hm ha hdb he hpl)
theorem passF {X : Cx} : Passes (L2.CX X.prog X.w) X (fun _ _ _ => False) := fun pins σ H s e s' I c => passL pins σ H s e s' I c
/-- an error of the class at S: does «except C» name it -/
theorem exm_mk {K : PySem.W.Frag} {S C : Addr} {b : Bool} (h1 : PySem.W.subIn K (.ref C) (.type "BaseException") = some true) (h2 : PySem.W.isClsIn K C = true) (h3 : PySem.W.typeIn K (.ref C) = some (.type "type")) (h4 : PySem.W.subIn K (.ref S) (.ref C) = some b) :
    PySem.W.exmOne K (.ref S) (.ref C) = some b := by
  have e1 : (PySem.W.subIn K (.ref C) (.type "BaseException") == some true) = true := by rw [h1] <;> rfl
  have e2 : ((PySem.W.clsIn K C).isSome && PySem.W.typeIn K (.ref C) == some (.type "type")) = true := by
    have h2' : (PySem.W.clsIn K C).isSome = true := h2
    rw [h2', h3] <;> rfl
  show (if (PySem.W.subIn K (.ref C) (.type "BaseException") == some true) = true then (if ((PySem.W.clsIn K C).isSome && PySem.W.typeIn K (.ref C) == some (.type "type")) = true then PySem.W.subIn K (.ref S) (.ref C) else none) else none) = some b
  rw [if_pos e1, if_pos e2]
  exact h4
def sTryOnly (K : PySem.W.Frag) (c : Value) (tb : WX → TS) (ts : Addr → Value → Option Addr → TS) (W : WX) : TS := fun D σ H => tb (wOnly K c ts W D) D σ H
/-- raise C('m'), C without an __init__ of its own -/
def sRaiseN (C : Addr) (W : WX) : TS := fun _ σ H => W (.ref C) none σ H
/-- try: .. except x as n: .. -/
def sTryAs (K : PySem.W.Frag) (c : Value) (i : Nat) (tb : WX → TS) (ts : Addr → Value → Option Addr → TS) (W : WX) : TS := fun D σ H => tb (wAs K c i ts W D) D σ H
end
def zPutF (K : PySem.W.Frag) (x : V) (f : Str) (y : V) (H : Hp) (N : Hp → Prop) : Prop := ∃ a C dx fs, x = .ref a ∧ H a = some (.ins C dx fs) ∧ Cls K C ∧ NoAttr K C f ∧ fs.length < 1000 ∧ N (upd H a (.ins C dx (putF f y fs)))
def zMade (C : Addr) (H : Hp) (sp : V → Hp → Prop) : Prop := ∀ x dx, H x = none → H dx = none → dx ≠ x → sp (.ref x) (upd (upd H dx (.own x)) x (.ins C dx []))
/-! ### parts of readings by name -/
def zB (x : V) (H : Hp) (Q : Bool → Hp → Prop) : Prop := ∃ k, x = .bl k ∧ Q k H
def zTup (xs : List V) (H : Hp) (Q : VK) : Prop := xs.length ≤ sizeLine ∧ ∀ p, H p = none → Q (.ref p) (upd H p (.tup xs))
def zLst (xs : List V) (H : Hp) (Q : VK) : Prop := xs.length ≤ sizeLine ∧ ∀ p, H p = none → Q (.ref p) (upd H p (.lst xs))
def zIf (k : Bool) (A B : Prop) : Prop := if k = true then A else B
def zDGet (x y : V) (H : Hp) (Q : VK) : Prop := ∃ a v, x = .ref a ∧ DGet H a y (some v) ∧ Q v H
def zDIn (y x : V) (H : Hp) (Q : VK) : Prop := ∃ a o, x = .ref a ∧ DGet H a y o ∧ Q (.bl o.isSome) H
def zDNotIn (y x : V) (H : Hp) (Q : VK) : Prop := ∃ a o, x = .ref a ∧ DGet H a y o ∧ Q (.bl (!o.isSome)) H
def zDPut (x y v : V) (H : Hp) (N : Hp → Prop) : Prop := ∃ a H4, x = .ref a ∧ DPut H a y v H4 ∧ N H4
def zFld (K : PySem.W.Frag) (x : V) (f : Str) (H : Hp) (Q : VK) : Prop := ∃ a C dx fs v, x = .ref a ∧ H a = some (.ins C dx fs) ∧ Cls K C ∧ NoAttr K C f ∧ fs.lookup f = some v ∧ Q v H
def zTy (K : PySem.W.Frag) (T : String) (x : V) (H : Hp) (N : Prop) : Prop := tyV K T x H ∧ N
def zGTup (K : PySem.W.Frag) (n : Nat) (t : TGs) (v : V) (σ : L2.St) (H : Hp) (Q : L2.St → Hp → Prop) : Prop := ∃ a xs, v = .ref a ∧ (SqT K H a xs ∨ SqL K H a xs) ∧ xs.length = n ∧ t xs σ H Q

section
variable {K : PySem.W.Frag} {σ : L2.St} {H : Hp} {Q : VK} {QB : Bool → Hp → Prop} {QA : List V → Hp → Prop} {N b c : L2.St → Hp → Prop} {r : VK} {ta tb tc te : TE} {t u : TT} {tt tu : TS} {tA : TA} {g : TG} {v w x y : V} {i j : Int} {n : Nat} {p q a : Addr} {xs ys : List V} {rr rr' : R2} {k : Bool} {A B : Prop}

/-! ### statements -/
theorem s_seq (h : tt ⟨tu ⟨N, r, b, c⟩, r, b, c⟩ σ H) : tSeq tt tu ⟨N, r, b, c⟩ σ H := h
theorem s_cut (Mid : L2.St → Hp → Prop) (h1 : tt ⟨Mid, r, b, c⟩ σ H) (h2 : ∀ σ' H', Mid σ' H' → tu ⟨N, r, b, c⟩ σ' H') : C8.tCut tt tu ⟨N, r, b, c⟩ σ H := ⟨Mid, h1, h2⟩
theorem s_next (h : N σ H) : tNext ⟨N, r, b, c⟩ σ H := h
theorem s_break (h : b σ H) : tBreak ⟨N, r, b, c⟩ σ H := h
theorem s_cont (h : c σ H) : tCont ⟨N, r, b, c⟩ σ H := h
theorem s_ret (h : te σ H r) : tRet te ⟨N, r, b, c⟩ σ H := h
theorem s_retN (h : r .non H) : tRetN ⟨N, r, b, c⟩ σ H := h
theorem s_drop (h : te σ H fun _ H1 => N σ H1) : tDrop te ⟨N, r, b, c⟩ σ H := h
theorem s_set (h : te σ H fun v H1 => N (σ.set n (some v)) H1) : tAsg te (gName n) ⟨N, r, b, c⟩ σ H := h
theorem s_asg (h : te σ H fun v H1 => g v σ H1 N) : tAsg te g ⟨N, r, b, c⟩ σ H := h
theorem s_if (h : t σ H fun k H1 => zIf k (tt ⟨N, r, b, c⟩ σ H1) (tu ⟨N, r, b, c⟩ σ H1)) : tIfS t tt tu ⟨N, r, b, c⟩ σ H := h
theorem s_dput {td ty tv : TE} (h : tv σ H fun v H1 => td σ H1 fun x H2 => ty σ H2 fun y H3 => zDPut x y v H3 fun H4 => N σ H4) : sDPut td ty tv ⟨N, r, b, c⟩ σ H := h
/-! ### targets -/
theorem s_gname {NN : L2.St → Hp → Prop} (h : NN (σ.set n (some v)) H) : gName n v σ H NN := h
theorem s_gsub {to ti : TE} {ts : TSet} {NN : L2.St → Hp → Prop} (h : to σ H fun o H1 => ti σ H1 fun i H2 => ts o i v H2 fun H3 => NN σ H3) : gSub to ti ts v σ H NN := h
theorem s_gtup {tg : TGs} {NN : L2.St → Hp → Prop} (hs : SqT K H a xs) (hl : xs.length = n) (h : tg xs σ H NN) : gTup K n tg (.ref a) σ H NN := ⟨a, xs, rfl, hs, hl, h⟩
theorem s_gnil {NN : L2.St → Hp → Prop} (h : NN σ H) : gNil [] σ H NN := ⟨rfl, h⟩
theorem s_gcons {t1 : TG} {t2 : TGs} {NN : L2.St → Hp → Prop} (h : t1 v σ H fun σ' H' => t2 xs σ' H' NN) : gCons t1 t2 (v :: xs) σ H NN := ⟨v, xs, rfl, h⟩
/-! ### expressions -/
theorem s_var (h : σ[n]? = some (some v)) (q : Q v H) : tVar n σ H Q := ⟨v, h, q⟩
theorem s_c (q : Q v H) : tC v σ H Q := q
theorem s_op (h : ta σ H fun x H1 => tb σ H1 fun y H2 => rr x y H2 Q) : tOp rr ta tb σ H Q := h
theorem s_un {ru : V → Hp → VK → Prop} (h : ta σ H fun x H1 => ru x H1 Q) : tUn ru ta σ H Q := h
theorem s_cb {rc : List V → Hp → VK → Prop} (h : tA σ H fun vs H1 => rc vs H1 Q) : tCB rc tA σ H Q := h
theorem s_nil (h : QA [] H) : tNil σ H QA := h
theorem s_cons {tr : TA} (h : ta σ H fun x H1 => tr σ H1 fun xs H2 => QA (x :: xs) H2) : tCons ta tr σ H QA := h
theorem s_call {sp : Sp} {E : XK} (h : tA σ H fun vs H1 => sp vs H1 Q E) : tCall sp [] E tA σ H Q := by
  show tA σ H fun vs H1 => sp (vs ++ []) H1 Q E
  simp only [List.append_nil]
  exact h
theorem s_tup (h : tA σ H fun xs H1 => zTup xs H1 Q) : tTup tA σ H Q := h
theorem s_lst (h : tA σ H fun xs H1 => zLst xs H1 Q) : tLst tA σ H Q := h
theorem s_ztup (h : Nat.ble xs.length sizeLine = true) (h2 : ∀ p, H p = none → Q (.ref p) (upd H p (.tup xs))) : zTup xs H Q := ⟨Nat.le_of_ble_eq_true h, h2⟩
theorem s_zlst (h : Nat.ble xs.length sizeLine = true) (h2 : ∀ p, H p = none → Q (.ref p) (upd H p (.lst xs))) : zLst xs H Q := ⟨Nat.le_of_ble_eq_true h, h2⟩
theorem s_test (h : te σ H fun x H1 => zB x H1 QB) : tTest te σ H QB := h
theorem s_B (h : te σ H fun x H1 => zB x H1 QB) : tB te σ H QB := h
theorem s_zB (h : QB k H) : zB (.bl k) H QB := ⟨k, rfl, h⟩
theorem s_and (h : t σ H fun k H1 => zIf k (u σ H1 QB) (QB false H1)) : tAnd t u σ H QB := h
theorem s_or (h : t σ H fun k H1 => zIf k (QB true H1) (u σ H1 QB)) : tOr t u σ H QB := h
theorem s_not (h : t σ H fun k H1 => QB (!k) H1) : tNot t σ H QB := h
theorem s_chain (h : ta σ H fun x H1 => tb σ H1 fun y H2 => rr x y H2 fun z H3 => zB z H3 fun k H3 => zIf k (tc σ H3 fun w H4 => rr' y w H4 Q) (Q (.bl false) H3)) : tChain rr rr' ta tb tc σ H Q := h
theorem s_ifE (h : t σ H fun k H1 => zIf k (ta σ H1 Q) (tb σ H1 Q)) : tIf t ta tb σ H Q := h
theorem s_bm {T : String} {rm : V → List V → Hp → VK → Prop} (h : ta σ H fun x H1 => zTy K T x H1 (tA σ H1 fun xs H2 => rm x xs H2 Q)) : tBM K T rm ta tA σ H Q := h
theorem s_bm0 {T : String} {rm : V → List V → Hp → VK → Prop} (h : ta σ H fun x H1 => zTy K T x H1 (rm x [] H1 Q)) : tBM0 K T rm ta σ H Q := h
theorem s_fld {f : Str} (h : ta σ H fun x H1 => zFld K x f H1 Q) : tFld K ta f σ H Q := h
theorem s_meth {C : Addr} {m : Str} {sp : Sp} {W : WX} (h : ta σ H fun x H1 => zSelf C m x H1 (tA σ H1 fun vs H2 => sp (x :: vs) H2 Q (WE W σ))) : tMethZ C m sp (WE W) ta tA σ H Q := h
theorem s_zself {C dx : Addr} {m : Str} {fs : List (Str × V)} {N1 : Prop} (h1 : H p = some (.ins C dx fs)) (h2 : fs.lookup m = none) (h : N1) : zSelf C m (.ref p) H N1 := ⟨p, dx, fs, rfl, h1, h2, h⟩
theorem s_make {C : Addr} {sp : Sp} {W : WX} (h : tA σ H fun vs H1 => zMade C H1 fun x H2 => sp (x :: vs) H2 (fun v H2 => v = .non ∧ Q x H2) (WE W σ)) : tMakeZ C sp (WE W) tA σ H Q := h
theorem s_fldset {f : Str} (h : tb σ H fun y H1 => ta σ H1 fun x H2 => zPutF K x f y H2 fun H3 => N σ H3) : sFld K ta tb f ⟨N, r, b, c⟩ σ H := h
theorem s_zputF {C dx : Addr} {fs : List (Str × V)} {f : Str} {N1 : Hp → Prop} (h1 : H p = some (.ins C dx fs)) (hc : Cls K C) (hn : NoAttr K C f) (hl : fs.length < 1000) (h : N1 (upd H p (.ins C dx (putF f y fs)))) : zPutF K (.ref p) f y H N1 := ⟨p, C, dx, fs, rfl, h1, hc, hn, hl, h⟩
def zRev (K : PySem.W.Frag) (x : V) (H : Hp) (Q : VK) : Prop := ∃ a xs, x = .ref a ∧ SqL K H a xs ∧ ∀ p, H p = none → Q (.ref p) (upd H p (.lst xs.reverse))
theorem s_rev (h : ta σ H fun x H1 => zRev K x H1 Q) : tRevL K ta σ H Q := h
theorem s_zrev (h1 : SqL K H p xs) (h : ∀ a, H a = none → Q (.ref a) (upd H a (.lst xs.reverse))) : zRev K (.ref p) H Q := ⟨p, xs, rfl, h1, h⟩
theorem s_pop {z : V} (h1 : H p = some (.lst xs)) (h2 : xs[xs.length - 1]? = some z) (h : Q z (upd H p (.lst xs.dropLast))) : rPop (.ref p) [] H Q := ⟨p, xs, z, rfl, rfl, h1, h2, h⟩
theorem s_reverse (h1 : H p = some (.lst xs)) (h : Q .non (upd H p (.lst xs.reverse))) : rReverse (.ref p) [] H Q := ⟨p, xs, rfl, rfl, h1, h⟩
def zMkO (C : Addr) (sp : Sp) (vs : List V) (H1 : Hp) (Q : XK) : Prop := vs.length ≤ 1000 ∧ ∀ a, H1 a = none → sp (.ref a :: (vs ++ [])) (upd H1 a (exo a C none))
  (fun v H2 => v = .non ∧ ∃ (d : Addr) (fs : List (Str × V)), H2 a = some (exo a C (some d)) ∧ H2 d = some (exd d fs) ∧ H1 d = none ∧ Q (.ref C) (some d) (upd (del H2 a) d (.xd fs))) (fun _ _ _ => False)
theorem s_raiseO {C : Addr} {sp : Sp} {W : WX} (h : tA σ H fun vs H1 => zMkO C sp vs H1 fun cls d H' => W cls d σ H') : sRaiseO C sp W tA ⟨N, r, b, c⟩ σ H := h
theorem s_tryAs {i : Nat} {cc : Value} {tbw : WX → TS} {ts : Addr → Value → Option Addr → TS} {W : WX} (h : tbw (wAs K cc i ts W ⟨N, r, b, c⟩) ⟨N, r, b, c⟩ σ H) : sTryAs K cc i tbw ts W ⟨N, r, b, c⟩ σ H := h
theorem s_raiseN {C : Addr} {W : WX} (h : W (.ref C) none σ H) : sRaiseN C W ⟨N, r, b, c⟩ σ H := h
theorem s_tryOnly {cc : Value} {tbw : WX → TS} {ts : Addr → Value → Option Addr → TS} {W : WX} (h : tbw (wOnly K cc ts W ⟨N, r, b, c⟩) ⟨N, r, b, c⟩ σ H) : sTryOnly K cc tbw ts W ⟨N, r, b, c⟩ σ H := h
theorem s_all {bs : List Bool} (h1 : SqL K H p (bs.map V.bl)) (h : Q (.bl (bs.all id)) H) : rAll K [.ref p] H Q := ⟨p, bs, rfl, h1, h⟩
def zVeI (K : PySem.W.Frag) (vs : List V) (H1 : Hp) (Q : VK) : Prop := ∃ (a C : Addr) (ws : List V), vs = .ref a :: ws ∧ ws.length ≤ 1000 ∧ OexC K C ∧ H1 a = some (exo a C none) ∧ Q .non H1
theorem s_vei (h : tA σ H fun vs H1 => zVeI K vs H1 Q) : tVeI K tA σ H Q := h
def zOst (K : PySem.W.Frag) (f : Str) (x y : V) (H2 : Hp) (NN : Hp → Prop) : Prop := ∃ a C : Addr, x = .ref a ∧ OexC K C ∧ PySem.W.findIn K (.ref C) f = some none ∧
  ((H2 a = some (exo a C none) ∧ ∀ dx, H2 dx = none → dx ≠ a → NN (upd (upd H2 dx (exd dx [(f, y)])) a (exo a C (some dx)))) ∨
    ∃ (dx : Addr) (fs : List (Str × V)), H2 a = some (exo a C (some dx)) ∧ H2 dx = some (exd dx fs) ∧ fs.length ≤ 900 ∧ NN (upd H2 dx (exd dx ((f, y) :: fs))))
theorem s_ost {f : Str} (h : tb σ H fun y H1 => ta σ H1 fun x H2 => zOst K f x y H2 fun H3 => N σ H3) : tOst K f ta tb ⟨N, r, b, c⟩ σ H := h
def zXf (a : Addr) (cls : Value) (d : Option Addr) (C : Addr) (f : Str) (x : V) (H1 : Hp) (Q : VK) : Prop := x = .ref a ∧ cls = .ref C ∧ ∃ (dd : Addr) (fs : List (Str × V)) (v : V), d = some dd ∧ H1 dd = some (.xd fs) ∧ fs.lookup f = some v ∧ Q v H1
theorem s_xf {cls : Value} {d : Option Addr} {C : Addr} {f : Str} (h : te σ H fun x H1 => zXf a cls d C f x H1 Q) : tXf a cls d C f te σ H Q := h
theorem s_rep (h1 : H p = some (.lst xs)) (h2 : -(2 ^ 63) ≤ i ∧ i < 2 ^ 63) (h3 : xs.length * i.toNat ≤ sizeLine) (h : ∀ a, H a = none → Q (.ref a) (upd H a (.lst (List.replicate i.toNat xs).flatten))) : rRep (.ref p) (.int i) H Q := ⟨p, i, xs, rfl, rfl, h1, h2.1, h2.2, h3, h⟩
theorem s_dget2 {td ty tx : TE} (h : td σ H fun x H1 => ∃ a, x = .ref a ∧ IsD H1 a ∧ ty σ H1 fun y H2 => tx σ H2 fun z H3 => ∃ o, DGet H3 a y o ∧ Q (o.getD z) H3) : tDGet2 td ty tx σ H Q := h
theorem s_dget {td ty : TE} (h : td σ H fun x H1 => ty σ H1 fun y H2 => zDGet x y H2 Q) : tDGet td ty σ H Q := h
theorem s_din {td ty : TE} (h : ty σ H fun y H1 => td σ H1 fun x H2 => zDIn y x H2 Q) : tDIn ty td σ H Q := h
theorem s_dnotin {td ty : TE} (h : ty σ H fun y H1 => td σ H1 fun x H2 => zDNotIn y x H2 Q) : tDNotIn ty td σ H Q := h
theorem s_dnew (h : ∀ p, H p = none → Q (.ref p) (upd H p (.dK []))) : tDNewK σ H Q := h
theorem s_disp {trs : List (TE × TE)} (h : ∀ p, H p = none → tPairs trs σ (upd H p (.dK [])) fun ps H2 => H2 p = some (.dK []) ∧ ∃ kvs : List (Key × V), ps = kvs.map (fun kv => (kV kv.1, kv.2)) ∧ kvs.length ≤ 15 ∧ Q (.ref p) (upd H2 p (.dK (mergeK [] kvs)))) : tDisp trs σ H Q := h
theorem s_pnil {QP : List (V × V) → Hp → Prop} (h : QP [] H) : tPairs [] σ H QP := h
theorem s_pcons {tk tv : TE} {trs : List (TE × TE)} {QP : List (V × V) → Hp → Prop} (h : tk σ H fun x H1 => tv σ H1 fun y H2 => tPairs trs σ H2 fun ps H3 => QP ((x, y) :: ps) H3) : tPairs ((tk, tv) :: trs) σ H QP := h
theorem s_andV (h : ta σ H fun x H1 => zB x H1 fun k H1 => zIf k (tb σ H1 Q) (Q (.bl false) H1)) : tAndV ta tb σ H Q := h
theorem s_orV (h : ta σ H fun x H1 => zB x H1 fun k H1 => zIf k (Q (.bl true) H1) (tb σ H1 Q)) : tOrV ta tb σ H Q := h
theorem s_notV (h : ta σ H fun x H1 => zB x H1 fun k H1 => Q (.bl (!k)) H1) : tNotV ta σ H Q := h
/-! ### by values -/
theorem s_rI0 {gg : Int → Int → V} (h : Q (gg i j) H) : rI0 gg (.int i) (.int j) H Q := ⟨i, j, rfl, rfl, h⟩
theorem s_rU {gg : Int → V} (h : Q (gg i) H) : rU gg (.int i) H Q := ⟨i, rfl, h⟩
theorem s_fdv (h0 : j ≠ 0 ∧ j.natAbs.log2 < 9000) (h : Q (.int (i.fdiv j)) H) : rFdv (.int i) (.int j) H Q := ⟨i, j, rfl, rfl, h0, h⟩
theorem s_mod (h0 : j ≠ 0) (h : Q (.int (i.fmod j)) H) : rMod (.int i) (.int j) H Q := ⟨i, j, rfl, rfl, h0, h⟩
theorem s_fdvp (h0 : 0 < j ∧ j < 2 ^ 64) (h : Q (.int (i / j)) H) : rFdv (.int i) (.int j) H Q := ⟨i, j, rfl, rfl, ⟨by omega, Nat.lt_of_lt_of_le (PySem.Flt.log2_lt_of (k := 64) (by decide) (by omega)) (by decide)⟩, by
  show Q (.int (i.fdiv j)) H
  rw [Int.fdiv_eq_ediv_of_nonneg i (by omega)]; exact h⟩
theorem s_modp (h0 : 0 < j) (h : Q (.int (i % j)) H) : rMod (.int i) (.int j) H Q := ⟨i, j, rfl, rfl, by omega, by
  show Q (.int (i.fmod j)) H
  rw [Int.fmod_eq_emod_of_nonneg i (by omega)]; exact h⟩
theorem s_mulp (h0 : (-18446744073709551616 < i ∧ i < 18446744073709551616) ∨ (-18446744073709551616 < j ∧ j < 18446744073709551616)) (h : Q (.int (i * j)) H) : rMul (.int i) (.int j) H Q := ⟨i, j, rfl, rfl, .inl h0, h⟩
theorem s_mul (h0 : CMul i j ∨ CMulW i j) (h : Q (.int (i * j)) H) : rMul (.int i) (.int j) H Q := ⟨i, j, rfl, rfl, h0, h⟩
theorem s_add_i (h : Q (.int (i + j)) H) : rAddU K (.int i) (.int j) H Q := .inl ⟨i, j, rfl, rfl, h⟩
theorem s_add_s {z w : Str} (h0 : z.length + w.length ≤ sizeLine) (h : Q (.str (z ++ w)) H) : rAddU K (.str z) (.str w) H Q := .inr (.inl ⟨z, w, rfl, rfl, h0, h⟩)
theorem s_add_l (h1 : H p = some (.lst xs)) (h2 : H q = some (.lst ys)) (h0 : xs.length + ys.length ≤ sizeLine) (h : ∀ a, H a = none → Q (.ref a) (upd H a (.lst (xs ++ ys)))) : rAddU K (.ref p) (.ref q) H Q := .inr (.inr (.inl ⟨p, q, xs, ys, rfl, rfl, h1, h2, h0, h⟩))
theorem s_add_t (h1 : SqT K H p xs) (h2 : SqT K H q ys) (hx : xs ≠ []) (hy : ys ≠ []) (h0 : xs.length + ys.length ≤ sizeLine) (h : ∀ a, H a = none → Q (.ref a) (upd H a (.tup (xs ++ ys)))) : rAddU K (.ref p) (.ref q) H Q := .inr (.inr (.inr ⟨p, q, xs, ys, rfl, rfl, h1, h2, h0, fun e => absurd e hx, fun _ e => absurd e hy, fun _ _ => h⟩))
theorem s_add_tl (h1 : SqT K H p []) (h2 : SqT K H q ys) (h0 : ys.length ≤ sizeLine) (h : Q (.ref q) H) : rAddU K (.ref p) (.ref q) H Q := .inr (.inr (.inr ⟨p, q, [], ys, rfl, rfl, h1, h2, by simpa using h0, fun _ => h, fun e => absurd rfl e, fun e => absurd rfl e⟩))
theorem s_add_tr (h1 : SqT K H p xs) (h2 : SqT K H q []) (hx : xs ≠ []) (h0 : xs.length ≤ sizeLine) (h : Q (.ref p) H) : rAddU K (.ref p) (.ref q) H Q := .inr (.inr (.inr ⟨p, q, xs, [], rfl, rfl, h1, h2, by simpa using h0, fun e => absurd e hx, fun _ _ => h, fun _ e => absurd rfl e⟩))
theorem s_eq_i (h : Q (.bl (decide (i = j))) H) : rEqU K (.int i) (.int j) H Q := .inl ⟨rfl, by rw [show decide (V.int i = V.int j) = decide (i = j) by simp]; exact h⟩
theorem s_ne_i (h : Q (.bl (!decide (i = j))) H) : rNeU K (.int i) (.int j) H Q := .inl ⟨rfl, by rw [show decide (V.int i = V.int j) = decide (i = j) by simp]; exact h⟩
theorem s_eq_s {z w : Str} (h : Q (.bl (decide (z = w))) H) : rEqU K (.str z) (.str w) H Q := .inl ⟨rfl, by rw [show decide (V.str z = V.str w) = decide (z = w) by simp]; exact h⟩
theorem s_ne_s {z w : Str} (h : Q (.bl (!decide (z = w))) H) : rNeU K (.str z) (.str w) H Q := .inl ⟨rfl, by rw [show decide (V.str z = V.str w) = decide (z = w) by simp]; exact h⟩
theorem s_eq_v (h0 : scal x y = true) (h : Q (.bl (decide (x = y))) H) : rEqU K x y H Q := .inl ⟨h0, h⟩
theorem s_ne_v (h0 : scal x y = true) (h : Q (.bl (!decide (x = y))) H) : rNeU K x y H Q := .inl ⟨h0, h⟩
theorem s_eq_d {d e : PyData} (h1 : Dp K H x d) (h2 : Dp K H y e) (h3 : SeqAt.shaped d = true) (h4 : SeqAt.shaped e = true) (h : Q (.bl (PyData.eqv d e)) H) : rEqU K x y H Q := .inr (.inl ⟨d, e, h1, h2, h3, h4, h⟩)
theorem s_ne_d {d e : PyData} (h1 : Dp K H x d) (h2 : Dp K H y e) (h3 : SeqAt.shaped d = true) (h4 : SeqAt.shaped e = true) (h : Q (.bl (!PyData.eqv d e)) H) : rNeU K x y H Q := .inr (.inl ⟨d, e, h1, h2, h3, h4, h⟩)
theorem s_eq_len (h1 : H p = some (.lst xs)) (h2 : H q = some (.lst ys)) (hn : xs.length ≠ ys.length) (h : Q (.bl false) H) : rEqU K (.ref p) (.ref q) H Q := .inr (.inr ⟨p, q, xs, ys, rfl, rfl, h1, h2, hn, h⟩)
theorem s_ne_len (h1 : H p = some (.lst xs)) (h2 : H q = some (.lst ys)) (hn : xs.length ≠ ys.length) (h : Q (.bl true) H) : rNeU K (.ref p) (.ref q) H Q := .inr (.inr ⟨p, q, xs, ys, rfl, rfl, h1, h2, hn, h⟩)
theorem s_ix_l (h1 : SqL K H p xs) (h2 : atI xs i = some v) (h : Q v H) : rIx K (.ref p) (.int i) H Q := .inl ⟨p, xs, i, v, rfl, rfl, h1, h2, h⟩
theorem s_ix_t (h1 : SqT K H p xs) (h2 : atI xs i = some v) (h : Q v H) : rIx K (.ref p) (.int i) H Q := .inr (.inl ⟨p, xs, i, v, rfl, rfl, h1, h2, h⟩)
theorem s_ix_s {z : Str} {cc : Nat} (h1 : z.length ≤ sizeLine) (h2 : atI z.cps.toList i = some cc) (h : Q (.str ⟨#[cc]⟩) H) : rIx K (.str z) (.int i) H Q := .inr (.inr ⟨z, i, cc, rfl, rfl, h1, h2, h⟩)
theorem s_setL {N1 : Hp → Prop} (h1 : H p = some (.lst xs)) (h2 : ixN xs.length i = some n) (h : N1 (upd H p (.lst (xs.set n v)))) : rSetL (.ref p) (.int i) v H N1 := ⟨p, xs, i, n, rfl, rfl, h1, h2, h⟩
theorem s_len_l (h1 : SqL K H p xs) (h : Q (.int xs.length) H) : rLen K [.ref p] H Q := ⟨_, xs.length, rfl, .inl ⟨xs, h1, rfl⟩, h⟩
theorem s_len_t (h1 : SqT K H p xs) (h : Q (.int xs.length) H) : rLen K [.ref p] H Q := ⟨_, xs.length, rfl, .inr ⟨xs, h1, rfl⟩, h⟩
theorem s_len_s {z : Str} (h1 : z.length ≤ sizeLine) (h : Q (.int z.length) H) : rLen K [.str z] H Q := ⟨_, z.length, rfl, ⟨h1, rfl⟩, h⟩
theorem s_min2 (h : Q (.int (if j < i then j else i)) H) : rMin2 [.int i, .int j] H Q := ⟨i, j, rfl, h⟩
theorem s_max2 (h : Q (.int (if j > i then j else i)) H) : rMax2 [.int i, .int j] H Q := ⟨i, j, rfl, h⟩
theorem s_listof_l (h1 : SqL K H p xs) (h : ∀ l, H l = none → Q (.ref l) (upd H l (.lst xs))) : rListOf K [.ref p] H Q := ⟨p, xs, rfl, .inl h1, h⟩
theorem s_listof_t (h1 : SqT K H p xs) (h : ∀ l, H l = none → Q (.ref l) (upd H l (.lst xs))) : rListOf K [.ref p] H Q := ⟨p, xs, rfl, .inr h1, h⟩
theorem s_tupof_l (h1 : SqL K H p xs) (h : ∀ l, H l = none → Q (.ref l) (upd H l (.tup xs))) : rTupOf K [.ref p] H Q := ⟨p, xs, rfl, .inl ⟨h1, h⟩⟩
theorem s_tupof_t (h1 : SqT K H p xs) (h : Q (.ref p) H) : rTupOf K [.ref p] H Q := ⟨p, xs, rfl, .inr ⟨h1, h⟩⟩
theorem s_int1 (h : Q (.int i) H) : rInt1 [.int i] H Q := .inl ⟨i, rfl, h⟩
theorem s_int1b (h : Q (.int (if k then 1 else 0)) H) : rInt1 [.bl k] H Q := .inr ⟨k, rfl, h⟩
theorem s_abs (h : Q (.int (if i < 0 then -i else i)) H) : rAbs [.int i] H Q := ⟨i, rfl, h⟩
theorem s_strI (h0 : i.natAbs.log2 < 1920) (h : Q (.str (toString i)) H) : rStrI [.int i] H Q := ⟨i, rfl, h0, h⟩
theorem s_isi {cc : V} {ty uu : Value} {bb : Bool} (h1 : ClsV cc uu) (h2 : TyX K H x ty) (h3 : PySem.W.kitOne K ty uu = some bb) (h : Q (.bl bb) H) : rIsi2 K [x, cc] H Q := .inl ⟨x, cc, ty, uu, bb, rfl, h1, h2, h3, h⟩
theorem s_isN_i (h : Q (.bl false) H) : rIsNz (.int i) .non H Q := ⟨rfl, by rw [decide_eq_false (by intro z; cases z)]; exact h⟩
theorem s_isN_r (h : Q (.bl false) H) : rIsNz (.ref p) .non H Q := ⟨rfl, by rw [decide_eq_false (by intro z; cases z)]; exact h⟩
theorem s_isN_s {z : Str} (h : Q (.bl false) H) : rIsNz (.str z) .non H Q := ⟨rfl, by rw [decide_eq_false (by intro z; cases z)]; exact h⟩
theorem s_isN_n (h : Q (.bl true) H) : rIsNz .non .non H Q := ⟨rfl, by rw [decide_eq_true rfl]; exact h⟩
theorem s_notN_i (h : Q (.bl true) H) : rNotNz (.int i) .non H Q := ⟨rfl, by rw [decide_eq_false (by intro z; cases z)]; exact h⟩
theorem s_notN_r (h : Q (.bl true) H) : rNotNz (.ref p) .non H Q := ⟨rfl, by rw [decide_eq_false (by intro z; cases z)]; exact h⟩
theorem s_notN_s {z : Str} (h : Q (.bl true) H) : rNotNz (.str z) .non H Q := ⟨rfl, by rw [decide_eq_false (by intro z; cases z)]; exact h⟩
theorem s_notN_n (h : Q (.bl false) H) : rNotNz .non .non H Q := ⟨rfl, by rw [decide_eq_true rfl]; exact h⟩
theorem s_slL {te' : TE} {tl th : TO} {rs : V → Option Int → Option Int → Hp → VK → Prop} (h : te' σ H fun x H1 => tl σ H1 fun l H2 => th σ H2 fun u H3 => rs x l u H3 Q) : tSl rs te' tl th σ H Q := h
theorem s_nopart {QO : Option Int → Hp → Prop} (h : QO none H) : tNoPart σ H QO := h
def zPart (x : V) (H : Hp) (QO : Option Int → Hp → Prop) : Prop := ∃ i, x = .int i ∧ QO (some i) H
theorem s_part {QO : Option Int → Hp → Prop} (h : te σ H fun x H1 => zPart x H1 QO) : tPart te σ H QO := h
theorem s_zpart {QO : Option Int → Hp → Prop} (h : QO (some i) H) : zPart (.int i) H QO := ⟨i, rfl, h⟩
theorem s_cutL {lo hi : Option Int} (h1 : SqL K H a xs) (h : ∀ p, H p = none → Q (.ref p) (upd H p (.lst (cutV xs lo hi)))) : rSlU K (.ref a) lo hi H Q := .inl ⟨a, xs, rfl, h1, h⟩
theorem s_isN (h : Q (.bl (decide (x = .non))) H) : rIsNz x .non H Q := ⟨rfl, h⟩
theorem s_notN (h : Q (.bl (!decide (x = .non))) H) : rNotNz x .non H Q := ⟨rfl, h⟩
theorem s_gun_t {tg : TGs} {NN : L2.St → Hp → Prop} (hs : SqT K H a xs) (hl : xs.length = n) (h : tg xs σ H NN) : gUn K n tg (.ref a) σ H NN := .inl ⟨a, xs, rfl, hs, hl, h⟩
theorem s_gun_l {tg : TGs} {NN : L2.St → Hp → Prop} (hs : SqL K H a xs) (hl : xs.length = n) (h : tg xs σ H NN) : gUn K n tg (.ref a) σ H NN := .inr ⟨a, xs, rfl, hs, hl, h⟩
theorem s_p18 (h : Q (.int 1000000000000000000) H) : rI CPow (fun i j => .int (i ^ j.toNat)) (.int 10) (.int 18) H Q := ⟨10, 18, rfl, rfl, by unfold CPow; decide, h⟩
theorem s_callS {W : WX} {sp : Sp} (h : tA σ H fun vs H1 => sp vs H1 Q (WE W σ)) : tCallS sp (WE W) tA σ H Q := h
theorem s_in_l (h1 : SqL K H p xs) (h2 : flatV x = true) (h3 : xs.all flatV = true) (h : Q (.bl (inV x xs)) H) : rIn K false x (.ref p) H Q := ⟨p, xs, rfl, .inl h1, h2, h3, h⟩
theorem s_in_t (h1 : SqT K H p xs) (h2 : flatV x = true) (h3 : xs.all flatV = true) (h : Q (.bl (inV x xs)) H) : rIn K false x (.ref p) H Q := ⟨p, xs, rfl, .inr h1, h2, h3, h⟩
theorem s_nin_l (h1 : SqL K H p xs) (h2 : flatV x = true) (h3 : xs.all flatV = true) (h : Q (.bl (!inV x xs)) H) : rIn K true x (.ref p) H Q := ⟨p, xs, rfl, .inl h1, h2, h3, h⟩
theorem s_nin_t (h1 : SqT K H p xs) (h2 : flatV x = true) (h3 : xs.all flatV = true) (h : Q (.bl (!inV x xs)) H) : rIn K true x (.ref p) H Q := ⟨p, xs, rfl, .inr h1, h2, h3, h⟩
theorem s_append (h1 : H p = some (.lst xs)) (h2 : xs.length < sizeLine) (h : Q .non (upd H p (.lst (xs ++ [v])))) : rAppend (.ref p) [v] H Q := ⟨p, xs, v, rfl, rfl, h1, h2, h⟩
theorem s_zTyL {N0 : Prop} (h1 : H p = some (.lst xs)) (h : N0) : zTy K "list" (.ref p) H N0 := ⟨.inl ⟨rfl, xs, .inl (.inl h1)⟩, h⟩
theorem s_zTyS {N0 : Prop} {z : Str} (h : N0) : zTy K "str" (.str z) H N0 := ⟨rfl, h⟩
theorem s_zTyL' {N0 : Prop} (h1 : SqL K H p xs) (h : N0) : zTy K "list" (.ref p) H N0 := ⟨.inl ⟨rfl, xs, h1⟩, h⟩
theorem s_join_l {z : Str} {ys : List Str} (h1 : SqL K H p (ys.map V.str)) (h2 : (ys.map (·.length)).sum + ys.length * z.length ≤ 16777216) (h : Q (.str (Txt.join z ys)) H) : rJoin K (.str z) [.ref p] H Q := ⟨z, p, ys, rfl, rfl, .inl h1, h2, h⟩
theorem s_index {y z : V} {j : Nat} (h1 : SqL K H p xs) (h2 : flatV y = true) (h3 : xs.all flatV = true) (h4 : xs[j]? = some z) (h5 : eqV z y = true) (h6 : ∀ (m : Nat) (z' : V), m < j → xs[m]? = some z' → eqV z' y = false) (h : Q (.int (j : Nat)) H) : rIndex K (.ref p) [y] H Q := ⟨p, xs, y, j, z, rfl, rfl, h1, h2, h3, h4, h5, h6, h⟩
theorem s_slS {z : Str} {lo hi : Option Int} (h1 : z.length ≤ sizeLine) (h : Q (.str (cutS z lo hi)) H) : rSlS (.str z) lo hi H Q := ⟨z, rfl, h1, h⟩
theorem s_zDGet_s {z : Str} {kvs : List (Key × V)} (h1 : Rd H p (.dK kvs)) (h2 : valV kvs (Sum.inr z : Key) = some v) (h : Q v H) : zDGet (.ref p) (.str z) H Q := ⟨p, v, rfl, .inl ⟨kvs, Sum.inr z, h1, rfl, h2.symm⟩, h⟩
theorem s_zDGet_i {kvs : List (Key × V)} (h1 : Rd H p (.dK kvs)) (h2 : valV kvs (Sum.inl i : Key) = some v) (h : Q v H) : zDGet (.ref p) (.int i) H Q := ⟨p, v, rfl, .inl ⟨kvs, Sum.inl i, h1, rfl, h2.symm⟩, h⟩
theorem s_zDIn_s {z : Str} {kvs : List (Key × V)} (h1 : Rd H p (.dK kvs)) (h : Q (.bl (valV kvs (Sum.inr z : Key)).isSome) H) : zDIn (.str z) (.ref p) H Q := ⟨p, _, rfl, .inl ⟨kvs, Sum.inr z, h1, rfl, rfl⟩, h⟩
theorem s_zDIn_i {kvs : List (Key × V)} (h1 : Rd H p (.dK kvs)) (h : Q (.bl (valV kvs (Sum.inl i : Key)).isSome) H) : zDIn (.int i) (.ref p) H Q := ⟨p, _, rfl, .inl ⟨kvs, Sum.inl i, h1, rfl, rfl⟩, h⟩
theorem s_zDNotIn_s {z : Str} {kvs : List (Key × V)} (h1 : Rd H p (.dK kvs)) (h : Q (.bl (!(valV kvs (Sum.inr z : Key)).isSome)) H) : zDNotIn (.str z) (.ref p) H Q := ⟨p, _, rfl, .inl ⟨kvs, Sum.inr z, h1, rfl, rfl⟩, h⟩
theorem s_zDNotIn_i {kvs : List (Key × V)} (h1 : Rd H p (.dK kvs)) (h : Q (.bl (!(valV kvs (Sum.inl i : Key)).isSome)) H) : zDNotIn (.int i) (.ref p) H Q := ⟨p, _, rfl, .inl ⟨kvs, Sum.inl i, h1, rfl, rfl⟩, h⟩
theorem s_zDPut_s {z : Str} {kvs : List (Key × V)} {N1 : Hp → Prop} (h1 : H p = some (.dK kvs)) (h2 : kvs.length < sizeLine) (h : N1 (upd H p (.dK (putK kvs (Sum.inr z : Key) v)))) : zDPut (.ref p) (.str z) v H N1 := ⟨p, _, rfl, .inl ⟨kvs, Sum.inr z, h1, rfl, h2, rfl⟩, h⟩
theorem s_zDPut_i {kvs : List (Key × V)} {N1 : Hp → Prop} (h1 : H p = some (.dK kvs)) (h2 : kvs.length < sizeLine) (h : N1 (upd H p (.dK (putK kvs (Sum.inl i : Key) v)))) : zDPut (.ref p) (.int i) v H N1 := ⟨p, _, rfl, .inl ⟨kvs, Sum.inl i, h1, rfl, h2, rfl⟩, h⟩
theorem s_zFld {C dx : Addr} {fs : List (Str × V)} {f : Str} (h1 : H p = some (.ins C dx fs)) (hc : Cls K C) (hn : NoAttr K C f) (hl : fs.lookup f = some v) (h : Q v H) : zFld K (.ref p) f H Q := ⟨p, C, dx, fs, v, rfl, h1, hc, hn, hl, h⟩
/-! ### ways -/
theorem s_ift (h : A) : zIf true A B := by unfold zIf; rw [if_pos rfl]; exact h
theorem s_iff (h : B) : zIf false A B := by unfold zIf; rw [if_neg Bool.false_ne_true]; exact h
theorem s_ifnn {D : Prop} [Decidable D] (h1 : ¬ D → A) (h2 : D → B) : zIf (!decide D) A B := by
  by_cases h : D
  · rw [decide_eq_true h]; exact s_iff (h2 h)
  · rw [decide_eq_false h]; exact s_ift (h1 h)
theorem s_nt (h : B) : zIf (!true) A B := s_iff h
theorem s_nf (h : A) : zIf (!false) A B := s_ift h
theorem s_ifd {D : Prop} [Decidable D] (h1 : D → A) (h2 : ¬ D → B) : zIf (decide D) A B := by
  by_cases h : D
  · rw [decide_eq_true h]; exact s_ift (h1 h)
  · rw [decide_eq_false h]; exact s_iff (h2 h)
theorem s_ifn {D : Prop} [Decidable D] (h1 : ¬ D → A) (h2 : D → B) : zIf (!decide D) A B := by
  by_cases h : D
  · rw [decide_eq_true h]; exact s_iff (h2 h)
  · rw [decide_eq_false h]; exact s_ift (h1 h)
theorem s_ifdt {D : Prop} [Decidable D] (h : D) (h1 : A) : zIf (decide D) A B := by rw [decide_eq_true h]; exact s_ift h1
theorem s_ifdf {D : Prop} [Decidable D] (h : ¬ D) (h1 : B) : zIf (decide D) A B := by rw [decide_eq_false h]; exact s_iff h1
theorem s_nft {D : Prop} [Decidable D] (h : D) (h1 : B) : zIf (!decide D) A B := by rw [decide_eq_true h]; exact s_iff h1
theorem s_nff {D : Prop} [Decidable D] (h : ¬ D) (h1 : A) : zIf (!decide D) A B := by rw [decide_eq_false h]; exact s_ift h1
theorem s_ifk (h1 : k = true → A) (h2 : k = false → B) : zIf k A B := by
  cases k with
  | true => exact s_ift (h1 rfl)
  | false => exact s_iff (h2 rfl)
theorem s_ifkt (h : k = true) (h1 : A) : zIf k A B := by subst h; exact s_ift h1
theorem s_ifkf (h : k = false) (h1 : B) : zIf k A B := by subst h; exact s_iff h1
/-! ### loops -/
/-- a loop whose iterator stands -/
def zLoop (J : It) (g : TG) (tb : TS) (D : Ends) (σ : L2.St) (H1 : Hp) : Prop := ∃ W : Nat → Nat → L2.St → Hp → Prop, (∃ m, W 0 m σ H1) ∧ ∀ i m σ H, W i m σ H →
  (J.stop i H ∧ D.nx σ H) ∨ (J.go i H ∧ ∃ N : L2.St → Hp → Prop, (∀ σ' H', N σ' H' → ∃ m', m' < m ∧ W (i + 1) m' σ' H') ∧ ∀ x H', J.yld i H x H' → g x σ H' fun σ2 H2 => tb { D with nx := N, ct := N, bk := D.nx } σ2 H2)
def zRng1 (vs : List V) (H : Hp) (R : It → Hp → Prop) : Prop := ∃ j : Int, vs = [.int j] ∧ -(2 ^ 62) ≤ j ∧ j < 2 ^ 62 ∧ R (Itr 0 j.toNat) H
def zRng2 (vs : List V) (H : Hp) (R : It → Hp → Prop) : Prop := ∃ i j : Int, vs = [.int i, .int j] ∧ (-(2 ^ 62) ≤ i ∧ i < 2 ^ 62 ∧ -(2 ^ 62) ≤ j ∧ j < 2 ^ 62) ∧ R (Itr i (j - i).toNat) H
def zItL (K : PySem.W.Frag) (x : V) (H : Hp) (R : It → Hp → Prop) : Prop := ∃ a, x = .ref a ∧ (∃ xs, SqL K H a xs) ∧ R (Itl K a) H
def zItT (K : PySem.W.Frag) (x : V) (H : Hp) (R : It → Hp → Prop) : Prop := ∃ a, x = .ref a ∧ (∃ xs, SqT K H a xs) ∧ R (Itt K a) H
/-- a comprehension whose iterator stands -/
def zLc (J : It) (g : TG) (t : TT) (te : TE) (vs : List Nat) (σ : L2.St) (H1 : Hp) (Q : VK) : Prop := ∀ D, H1 D = none → ∃ W : Nat → Nat → Hp → Prop, (∃ m, W 0 m (upd H1 D (.lst []))) ∧ ∀ i m H, W i m H →
  (J.stop i H ∧ Q (.ref D) H) ∨ (J.go i H ∧ ∃ Nx : Hp → Prop, (∀ H', Nx H' → ∃ m', m' < m ∧ W (i + 1) m' H') ∧ ∀ x H', J.yld i H x H' → g x (wipe σ vs) H' fun σ2 H2 => wipe σ2 vs = wipe σ vs ∧ t σ2 H2 fun b H3 =>
    if b = true then te σ2 H3 fun y H4 => ∃ acc, H4 D = some (.lst acc) ∧ acc.length < sizeLine ∧ Nx (upd H4 D (.lst (acc ++ [y]))) else Nx H3)
def zWipe (vs : List Nat) (σ σ2 : L2.St) (A : Prop) : Prop := wipe σ2 vs = wipe σ vs ∧ A
def zAcc (D : Addr) (y : V) (H : Hp) (P : Hp → Prop) : Prop := ∃ acc, H D = some (.lst acc) ∧ acc.length < sizeLine ∧ P (upd H D (.lst (acc ++ [y])))
theorem s_lc {wi : TI} {vs : List Nat} (h : wi σ H fun J H1 => zLc J g t te vs σ H1 Q) : tLc wi g t te vs σ H Q := h
theorem s_yes (h : QB true H) : tYes σ H QB := h
theorem s_wipe {vs : List Nat} {σ2 : L2.St} (h : wipe σ2 vs = wipe σ vs) (h1 : A) : zWipe vs σ σ2 A := ⟨h, h1⟩
theorem s_acc {D : Addr} {acc : List V} {P : Hp → Prop} (h1 : H D = some (.lst acc)) (h2 : acc.length < sizeLine) (h : P (upd H D (.lst (acc ++ [y])))) : zAcc D y H P := ⟨acc, h1, h2, h⟩
theorem lc_rng {lo : Int} {vs : List Nat} (Pv : Addr → Nat → Hp → Prop) (h0 : ∀ D, H D = none → Pv D 0 (upd H D (.lst [])))
    (hs : ∀ D i H', H D = none → i < n → Pv D i H' → g (.int (lo + (i : Int))) (wipe σ vs) H' fun σ2 H2 => zWipe vs σ σ2 (t σ2 H2 fun k H3 => zIf k (te σ2 H3 fun y H4 => zAcc D y H4 (Pv D (i + 1))) (Pv D (i + 1) H3)))
    (hd : ∀ D H', H D = none → Pv D n H' → Q (.ref D) H') : zLc (Itr lo n) g t te vs σ H Q := fun D hD =>
  lc_range (Pv D) (h0 D hD) (fun i H' hi hp => hs D i H' hD hi hp) (fun H' hp => hd D H' hD hp)
theorem lc_lst {vs : List Nat} (xs : List V) (Pv : Addr → Nat → Hp → Prop) (h0 : ∀ D, H D = none → Pv D 0 (upd H D (.lst []))) (hl : ∀ D i H', H D = none → i ≤ xs.length → Pv D i H' → SqL K H' p xs)
    (hs : ∀ D i x H', H D = none → xs[i]? = some x → Pv D i H' → g x (wipe σ vs) H' fun σ2 H2 => zWipe vs σ σ2 (t σ2 H2 fun k H3 => zIf k (te σ2 H3 fun y H4 => zAcc D y H4 (Pv D (i + 1))) (Pv D (i + 1) H3)))
    (hd : ∀ D H', H D = none → Pv D xs.length H' → Q (.ref D) H') : zLc (Itl K p) g t te vs σ H Q := fun D hD =>
  lc_list (xs := xs) (Pv D) (h0 D hD) (fun i H' hi hp => hl D i H' hD hi hp) (fun i x H' hx hp => hs D i x H' hD hx hp) (fun H' hp => hd D H' hD hp)
theorem lc_tp {vs : List Nat} (xs : List V) (Pv : Addr → Nat → Hp → Prop) (h0 : ∀ D, H D = none → Pv D 0 (upd H D (.lst []))) (hl : ∀ D i H', H D = none → i ≤ xs.length → Pv D i H' → SqT K H' p xs)
    (hs : ∀ D i x H', H D = none → xs[i]? = some x → Pv D i H' → g x (wipe σ vs) H' fun σ2 H2 => zWipe vs σ σ2 (t σ2 H2 fun k H3 => zIf k (te σ2 H3 fun y H4 => zAcc D y H4 (Pv D (i + 1))) (Pv D (i + 1) H3)))
    (hd : ∀ D H', H D = none → Pv D xs.length H' → Q (.ref D) H') : zLc (Itt K p) g t te vs σ H Q := fun D hD =>
  lc_tup (xs := xs) (Pv D) (h0 D hD) (fun i H' hi hp => hl D i H' hD hi hp) (fun i x H' hx hp => hs D i x H' hD hx hp) (fun H' hp => hd D H' hD hp)
theorem cut_nat {a b : Nat} {xs : List V} (h : a ≤ b) (h2 : b ≤ xs.length) : cutV xs (some (a : Int)) (some (b : Int)) = (xs.drop a).take (b - a) := by
  unfold cutV
  rw [HT.sIx_nat, HT.sIx_nat, Nat.min_eq_left h2, Nat.min_eq_left (Nat.le_trans h h2)]
theorem s_fdvq (h0 : 0 < j ∧ j < 10 ^ 70) (h : Q (.int (i / j)) H) : rFdv (.int i) (.int j) H Q := ⟨i, j, rfl, rfl, ⟨by omega, Nat.lt_of_lt_of_le (PySem.Flt.log2_lt_of (k := 240) (by decide) (by omega)) (by decide)⟩, by
  show Q (.int (i.fdiv j)) H
  rw [Int.fdiv_eq_ediv_of_nonneg i (by omega)]; exact h⟩
theorem s_extend {b' : Addr} {zs : List V} (h1 : H p = some (.lst xs)) (h2 : H b' = some (.lst zs)) (h3 : xs.length + zs.length ≤ sizeLine) (h : Q .non (upd H p (.lst (xs ++ zs)))) : rExtend (.ref p) [.ref b'] H Q := ⟨p, b', xs, zs, rfl, rfl, h1, h2, h3, h⟩
theorem s_clear (h1 : H p = some (.lst xs)) (h : Q .non (upd H p (.lst []))) : rClear (.ref p) [] H Q := ⟨p, xs, rfl, rfl, h1, h⟩
theorem s_for {wi : TI} {tb1 : TS} (h : wi σ H fun J H1 => zLoop J g tb1 ⟨N, r, b, c⟩ σ H1) : tFor wi g tb1 ⟨N, r, b, c⟩ σ H := h
theorem s_rng1 {R : It → Hp → Prop} (h : tA σ H fun vs H1 => zRng1 vs H1 R) : iRng1 tA σ H R := h
theorem s_rng2 {R : It → Hp → Prop} (h : tA σ H fun vs H1 => zRng2 vs H1 R) : iRng2 tA σ H R := h
theorem s_itl {R : It → Hp → Prop} (h : te σ H fun x H1 => zItL K x H1 R) : iList K te σ H R := h
theorem s_itt {R : It → Hp → Prop} (h : te σ H fun x H1 => zItT K x H1 R) : iTup K te σ H R := h
theorem s_zrng1 {R : It → Hp → Prop} (h1 : -(2 ^ 62) ≤ j ∧ j < 2 ^ 62) (h : R (Itr 0 j.toNat) H) : zRng1 [.int j] H R := ⟨j, rfl, h1.1, h1.2, h⟩
theorem s_zrng2 {R : It → Hp → Prop} (h1 : -(2 ^ 62) ≤ i ∧ i < 2 ^ 62 ∧ -(2 ^ 62) ≤ j ∧ j < 2 ^ 62) (h : R (Itr i (j - i).toNat) H) : zRng2 [.int i, .int j] H R := ⟨i, j, rfl, h1, h⟩
theorem s_zitl {R : It → Hp → Prop} (h1 : SqL K H p xs) (h : R (Itl K p) H) : zItL K (.ref p) H R := ⟨p, rfl, ⟨xs, h1⟩, h⟩
theorem s_zitt {R : It → Hp → Prop} (h1 : SqT K H p xs) (h : R (Itt K p) H) : zItT K (.ref p) H R := ⟨p, rfl, ⟨xs, h1⟩, h⟩
theorem loop_range {tb1 : TS} {lo : Int} (Pv : Nat → L2.St → Hp → Prop) (h0 : Pv 0 σ H) (hs : ∀ i σ' H', i < n → Pv i σ' H' → g (.int (lo + (i : Int))) σ' H' fun σ2 H2 => tb1 ⟨Pv (i + 1), r, N, Pv (i + 1)⟩ σ2 H2)
    (hd : ∀ σ' H', Pv n σ' H' → N σ' H') : zLoop (Itr lo n) g tb1 ⟨N, r, b, c⟩ σ H := for_range (D := ⟨N, r, b, c⟩) Pv h0 hs hd
theorem loop_list {tb1 : TS} (xs : List V) (Pv : Nat → L2.St → Hp → Prop) (h0 : Pv 0 σ H) (hl : ∀ i σ' H', i ≤ xs.length → Pv i σ' H' → SqL K H' p xs)
    (hs : ∀ i x σ' H', xs[i]? = some x → Pv i σ' H' → g x σ' H' fun σ2 H2 => tb1 ⟨Pv (i + 1), r, N, Pv (i + 1)⟩ σ2 H2) (hd : ∀ σ' H', Pv xs.length σ' H' → N σ' H') : zLoop (Itl K p) g tb1 ⟨N, r, b, c⟩ σ H :=
  for_list (D := ⟨N, r, b, c⟩) (xs := xs) Pv h0 hl hs hd
theorem loop_tup {tb1 : TS} (xs : List V) (Pv : Nat → L2.St → Hp → Prop) (h0 : Pv 0 σ H) (hl : ∀ i σ' H', i ≤ xs.length → Pv i σ' H' → SqT K H' p xs)
    (hs : ∀ i x σ' H', xs[i]? = some x → Pv i σ' H' → g x σ' H' fun σ2 H2 => tb1 ⟨Pv (i + 1), r, N, Pv (i + 1)⟩ σ2 H2) (hd : ∀ σ' H', Pv xs.length σ' H' → N σ' H') : zLoop (Itt K p) g tb1 ⟨N, r, b, c⟩ σ H :=
  for_tup (D := ⟨N, r, b, c⟩) (xs := xs) Pv h0 hl hs hd
def zBody (W : Nat → L2.St → Hp → Prop) (m : Nat) (tb : TS) (D : Ends) (σ : L2.St) (H1 : Hp) : Prop := ∃ N1 : L2.St → Hp → Prop, (∀ σ' H', N1 σ' H' → ∃ m', m' < m ∧ W m' σ' H') ∧ tb { D with nx := N1, ct := N1, bk := D.nx } σ H1
theorem s_zbody {W : Nat → L2.St → Hp → Prop} {m : Nat} {tb1 : TS} (h : tb1 ⟨fun σ2 H2 => ∃ m', m' < m ∧ W m' σ2 H2, r, N, fun σ2 H2 => ∃ m', m' < m ∧ W m' σ2 H2⟩ σ H) : zBody W m tb1 ⟨N, r, b, c⟩ σ H := ⟨_, fun σ2 H2 z => z, h⟩
theorem s_while {tb1 : TS} (W : Nat → L2.St → Hp → Prop) (m0 : Nat) (h0 : W m0 σ H)
    (hs : ∀ (m : Nat) σ' H', W m σ' H' → t σ' H' fun k H1 => zIf k (zBody W m tb1 ⟨N, r, b, c⟩ σ' H1) (N σ' H1)) : tWhile t tb1 ⟨N, r, b, c⟩ σ H := ⟨W, ⟨m0, h0⟩, fun m σ' H' w => hs m σ' H' w⟩
/-! ### heaps -/
theorem up_new {H : Hp} {q a : Addr} {o u : HO} (hq : H q = none) (h : H a = some o) : upd H q u a = some o := by rw [upd_ne (ne_of_none h hq)]; exact h
theorem up_far {H : Hp} {q a : Addr} {o u : HO} (hn : a ≠ q) (h : H a = some o) : upd H q u a = some o := by rw [upd_ne hn]; exact h
theorem sm_rd {H H' : Hp} {a : Addr} {o : HO} (S : Same H H') (h : H a = some o) : H' a = some o := S a o h
theorem same_new {H : Hp} {p : Addr} {o : HO} (h : H p = none) : Same H (upd H p o) := fun b u q => by rw [upd_ne (ne_of_none q h)]; exact q
def Fz : HO → Prop
  | .frz _ _ => True
  | _ => False
/-- all but what stands at p (and isn't locked) is as it was -/
def But (p : Addr) (H H' : Hp) : Prop := ∀ b o, (b ≠ p ∨ Fz o) → H b = some o → H' b = some o
theorem But.refl (p : Addr) (H : Hp) : But p H H := fun _ _ _ h => h
theorem But.trans {p : Addr} {H H1 H2 : Hp} (a : But p H H1) (b : But p H1 H2) : But p H H2 := fun c o n h => b c o n (a c o n h)
theorem But.rd {p : Addr} {H H' : Hp} {a : Addr} {o : HO} (S : But p H H') (n : a ≠ p) (h : H a = some o) : H' a = some o := S a o (.inl n) h
theorem But.of {p : Addr} {H H' : Hp} (S : Same H H') : But p H H' := fun b o _ h => S b o h
theorem But.up {p : Addr} {H H' : Hp} {o u : HO} (S : But p H H') (hp : H' p = some u) (nf : ¬ Fz u) : But p H (L2.upd H' p o) := fun b v n h => by
  have h' := S b v n h
  by_cases e : b = p
  · subst e
    rw [hp] at h'
    cases h'
    rcases n with n | n
    · exact absurd rfl n
    · exact absurd n nf
  · rw [upd_ne e]; exact h'
theorem But.new {p q : Addr} {H H' : Hp} {o : HO} (S : But p H H') (hq : H' q = none) : But p H (L2.upd H' q o) := fun b u n h => by rw [upd_ne (ne_of_none (S b u n h) hq)]; exact S b u n h
theorem But.none {p b : Addr} {H H' : Hp} (S : But p H H') (n : b ≠ p) (h : H' b = Option.none) : H b = Option.none := by
  cases e : H b with
  | none => rfl
  | some o => rw [S b o (.inl n) e] at h; cases h
theorem But.sqL {K : PySem.W.Frag} {p : Addr} {H H' : Hp} {a : Addr} {xs : List V} (S : But p H H') (n : a ≠ p) (h : SqL K H a xs) : SqL K H' a xs := by
  rcases h with (h | ⟨o, h⟩) | h
  · exact .inl (.inl (S _ _ (.inl n) h))
  · exact .inl (.inr ⟨o, S _ _ (.inl n) h⟩)
  · exact .inr h
theorem But.sqT {K : PySem.W.Frag} {p : Addr} {H H' : Hp} {a : Addr} {xs : List V} (S : But p H H') (n : a ≠ p) (h : SqT K H a xs) : SqT K H' a xs := by
  rcases h with (h | ⟨o, h⟩) | h
  · exact .inl (.inl (S _ _ (.inl n) h))
  · exact .inl (.inr ⟨o, S _ _ (.inl n) h⟩)
  · exact .inr h
theorem same_sqT {K : PySem.W.Frag} {H H' : Hp} {a : Addr} {xs : List V} (S : Same H H') (h : SqT K H a xs) : SqT K H' a xs := by
  rcases h with (h | ⟨o, h⟩) | h
  · exact .inl (.inl (S _ _ h))
  · exact .inl (.inr ⟨o, S _ _ h⟩)
  · exact .inr h
/-- the law's script: locked, or of the written part -/
def Scr (K : PySem.W.Frag) (H : Hp) (a : Addr) (ns : List Int) : Prop := (∃ o, H a = some (.frz o (.lst (ns.map V.int)))) ∨
  ∃ (o : Obj) (its : Array Value) (n : Nat), K.lookup a = some o ∧ o.cls = .type "list" ∧ o.dict = none ∧ o.data = .seq its n ∧ its.size ≤ sizeLine ∧ Vals (ns.map V.int) its.toList
theorem Scr.of {K : PySem.W.Frag} {H : Hp} {a : Addr} {ns : List Int} (h0 : Only H) (h : SqL K H a (ns.map V.int)) : Scr K H a ns := by
  rcases h with (h | ⟨o, h⟩) | h
  · rcases h0 a with e | ⟨o, xs, e⟩
    · rw [h] at e; cases e
    · rw [h] at e; cases e
  · exact .inl ⟨o, h⟩
  · exact .inr h
theorem Scr.sq {K : PySem.W.Frag} {H : Hp} {a : Addr} {ns : List Int} (h : Scr K H a ns) : SqL K H a (ns.map V.int) := by
  rcases h with ⟨o, h⟩ | h
  · exact .inl (.inr ⟨o, h⟩)
  · exact .inr h
theorem Scr.but {K : PySem.W.Frag} {H H' : Hp} {p a : Addr} {ns : List Int} (S : But p H H') (h : Scr K H a ns) : Scr K H' a ns := by
  rcases h with ⟨o, h⟩ | h
  · exact .inl ⟨o, S _ _ (.inr trivial) h⟩
  · exact .inr h
theorem Scr.same {K : PySem.W.Frag} {H H' : Hp} {a : Addr} {ns : List Int} (S : Same H H') (h : Scr K H a ns) : Scr K H' a ns := by
  rcases h with ⟨o, h⟩ | h
  · exact .inl ⟨o, S _ _ h⟩
  · exact .inr h
/-- a change of what stands at p, the heap behind it by a name -/
theorem up_but {H : Hp} {p : Addr} {o u : HO} (h : H p = some u) (nf : ¬ Fz u) : But p H (L2.upd H p o) := (But.refl p H).up h nf
theorem c_setL {N1 : Hp → Prop} (n : Nat) (ys : List V) (h1 : H p = some (.lst xs)) (h2 : ixN xs.length i = some n) (h3 : xs.set n v = ys) (h : ∀ H', But p H H' → H' p = some (.lst ys) → N1 H') : rSetL (.ref p) (.int i) v H N1 :=
  s_setL h1 h2 (h _ (up_but h1 (fun z => z)) (by rw [h3]; exact upd_same))
theorem c_acc {D : Addr} {acc : List V} {P : Hp → Prop} (h1 : H D = some (.lst acc)) (h2 : acc.length < sizeLine) (h : ∀ H', But D H H' → H' D = some (.lst (acc ++ [y])) → P H') : zAcc D y H P :=
  s_acc h1 h2 (h _ (up_but h1 (fun z => z)) upd_same)
theorem c_fld {C dx : Addr} {fs gs : List (Str × V)} {f : Str} {N1 : Hp → Prop} (h1 : H p = some (.ins C dx fs)) (hc : Cls K C) (hn : NoAttr K C f) (hl : fs.length < 1000) (h3 : putF f y fs = gs) (h : ∀ H', But p H H' → H' p = some (.ins C dx gs) → N1 H') : zPutF K (.ref p) f y H N1 :=
  s_zputF h1 hc hn hl (h _ (up_but h1 (fun z => z)) (by rw [h3]; exact upd_same))
theorem c_extend {b' : Addr} {zs : List V} (h1 : H p = some (.lst xs)) (h2 : H b' = some (.lst zs)) (h3 : xs.length + zs.length ≤ sizeLine) (h : ∀ H', But p H H' → H' p = some (.lst (xs ++ zs)) → Q .non H') : rExtend (.ref p) [.ref b'] H Q :=
  s_extend h1 h2 h3 (h _ (up_but h1 (fun z => z)) upd_same)
theorem c_clear (h1 : H p = some (.lst xs)) (h : ∀ H', But p H H' → H' p = some (.lst []) → Q .non H') : rClear (.ref p) [] H Q :=
  s_clear h1 (h _ (up_but h1 (fun z => z)) upd_same)
theorem c_pop {z : V} (h1 : H p = some (.lst xs)) (h2 : xs[xs.length - 1]? = some z) (h : ∀ H', But p H H' → H' p = some (.lst xs.dropLast) → Q z H') : rPop (.ref p) [] H Q :=
  s_pop h1 h2 (h _ (up_but h1 (fun z => z)) upd_same)
theorem c_reverse (h1 : H p = some (.lst xs)) (h : ∀ H', But p H H' → H' p = some (.lst xs.reverse) → Q .non H') : rReverse (.ref p) [] H Q :=
  s_reverse h1 (h _ (up_but h1 (fun z => z)) upd_same)
/-- all but what stands at p or q -/
def But2 (p q : Addr) (H H' : Hp) : Prop := ∀ b o, ((b ≠ p ∧ b ≠ q) ∨ Fz o) → H b = some o → H' b = some o
theorem But2.left {p q : Addr} {H H' : Hp} (B : But p H H') : But2 p q H H' := fun b o n h => B b o (n.imp And.left id) h
theorem But2.right {p q : Addr} {H H' : Hp} (B : But q H H') : But2 p q H H' := fun b o n h => B b o (n.imp And.right id) h
theorem But2.trans {p q : Addr} {H H1 H2 : Hp} (a : But2 p q H H1) (b : But2 p q H1 H2) : But2 p q H H2 := fun c o n h => b c o n (a c o n h)
theorem But2.of {p q : Addr} {H H' : Hp} (S : Same H H') : But2 p q H H' := fun b o _ h => S b o h
theorem But2.rd {p q : Addr} {H H' : Hp} {a : Addr} {o : HO} (S : But2 p q H H') (n : a ≠ p) (m : a ≠ q) (h : H a = some o) : H' a = some o := S a o (.inl ⟨n, m⟩) h
theorem But2.new {p q a : Addr} {H H' : Hp} {o : HO} (S : But2 p q H H') (ha : H' a = none) : But2 p q H (L2.upd H' a o) := S.trans (But2.of (same_new ha))
theorem But2.own {p q l : Addr} {H H1 H2 : Hp} (a : But2 p q H H1) (b : But l H1 H2) (hl : H l = none) : But2 p q H H2 := fun c o n h => b c o (.inl (ne_of_none h hl)) (a c o n h)
theorem But2.one {p q : Addr} {H H' : Hp} (B : But2 p q H H') (hq : H q = none) : But p H H' := fun c o n h => B c o (n.imp (fun z => ⟨z, ne_of_none h hq⟩) id) h
theorem But2.none {p q b : Addr} {H H' : Hp} (S : But2 p q H H') (n : b ≠ p) (m : b ≠ q) (h : H' b = Option.none) : H b = Option.none := by
  cases e : H b with
  | none => rfl
  | some o => rw [S b o (.inl ⟨n, m⟩) e] at h; cases h
theorem passC {X : Cx} (σ : L2.St) : PassesAt (L2.CX X.prog X.w) X σ (WE (fun _ _ _ _ => False) σ) := fun pins H s e s' I c => passL pins σ H s e s' I c
theorem c_append (h1 : H p = some (.lst xs)) (h2 : xs.length < sizeLine) (h : ∀ H', But p H H' → H' p = some (.lst (xs ++ [v])) → Q .non H') : rAppend (.ref p) [v] H Q :=
  s_append h1 h2 (h _ (up_but h1 (fun z => z)) upd_same)
/-- a change of what wasn't there at first -/
theorem But.own {p l : Addr} {H H1 H2 : Hp} (a : But p H H1) (b : But l H1 H2) (hl : H l = Option.none) : But p H H2 := fun c o n h => b c o (.inl (ne_of_none h hl)) (a c o n h)
theorem same_own {l : Addr} {H H1 H2 : Hp} (a : Same H H1) (b : But l H1 H2) (hl : H l = Option.none) : Same H H2 := fun c o h => b c o (.inl (ne_of_none h hl)) (a c o h)
/-- tuples stay -/
def TupS (H H' : Hp) : Prop := ∀ b ys, H b = some (.tup ys) → H' b = some (.tup ys)
theorem TupS.refl (H : Hp) : TupS H H := fun _ _ h => h
theorem TupS.trans {H H1 H2 : Hp} (a : TupS H H1) (b : TupS H1 H2) : TupS H H2 := fun c o h => b c o (a c o h)
theorem TupS.new {q : Addr} {H : Hp} {o : HO} (hq : H q = none) : TupS H (L2.upd H q o) := fun b ys h => same_new hq b _ h
theorem TupS.of {H H' : Hp} (S : Same H H') : TupS H H' := fun b _ h => S b _ h
theorem TupS.but {p : Addr} {H H' : Hp} {o : HO} (S : But p H H') (hp : H p = some o) (n : ∀ ys, o ≠ .tup ys) : TupS H H' := fun b ys h => S b _ (.inl fun e => by
  subst e
  rw [hp] at h
  exact n ys (Option.some.inj h)) h
theorem TupS.butN {p : Addr} {H H' : Hp} (S : But p H H') (hp : H p = none) : TupS H H' := fun b ys h => S b _ (.inl fun e => by
  subst e
  rw [hp] at h
  cases h) h
theorem But2.tups {p q : Addr} {H H' : Hp} {o u : HO} (B : But2 p q H H') (hp : H p = some o) (np : ∀ ys, o ≠ .tup ys) (hq : H q = some u) (nq : ∀ ys, u ≠ .tup ys) : TupS H H' := fun b ys h =>
  B b _ (.inl ⟨ne_of h hp (fun z => np ys z.symm), ne_of h hq (fun z => nq ys z.symm)⟩) h
/-- an item of a list of ints, at an open place within -/
theorem at_ints (ns : List Int) {i : Int} (h0 : 0 ≤ i) (h1 : i < ns.length) : ∃ w, w ∈ ns ∧ atI (ns.map V.int) i = some (.int w) := by
  refine ⟨ns[i.toNat]'(by omega), List.getElem_mem _, ?_⟩
  exact at_of (j := i.toNat) (by omega) (by rw [List.getElem?_map, List.getElem?_eq_getElem (by omega)]; rfl)
theorem putK_len {kvs : List (Key × V)} {k : Key} {v w : V} (h : valV kvs k = some w) : (putK kvs k v).length = kvs.length := by
  unfold putK
  rw [valV_any, h]
  simp
theorem valV_put_ne {kvs : List (Key × V)} {k j : Key} {v : V} (h : ¬ j = k) : valV (putK kvs k v) j = valV kvs j := by rw [valV_put, if_neg h]
theorem valV_put_eq {kvs : List (Key × V)} {k : Key} {v : V} : valV (putK kvs k v) k = some v := by rw [valV_put, if_pos rfl]
theorem c_dput_s {z : Str} {kvs : List (Key × V)} {N1 : Hp → Prop} (h1 : H p = some (.dK kvs)) (h2 : kvs.length < sizeLine) (h : ∀ H', But p H H' → H' p = some (.dK (putK kvs (Sum.inr z : Key) v)) → N1 H') : zDPut (.ref p) (.str z) v H N1 :=
  s_zDPut_s h1 h2 (h _ (up_but h1 (fun z => z)) upd_same)
theorem fdiv_abs (a b : Int) : (a.fdiv b).natAbs ≤ a.natAbs + 1 := Nat.le_succ_of_le (Int.natAbs_fdiv_le_natAbs a b)
/-! ### data: laid at most so deep -/
structure Sh (n : Nat) (d : PyData) : Prop where
  c : d.canLay0 = true
  d : d.depth ≤ n
theorem Sh.shaped {n : Nat} {d : PyData} (h : Sh n d) (hn : n ≤ 64) : SeqAt.shaped d = true := by
  unfold SeqAt.shaped
  rw [h.c, decide_eq_true (Nat.le_trans h.d hn)]
  rfl
theorem Sh.mono {n m : Nat} {d : PyData} (h : Sh n d) (hn : n ≤ m) : Sh m d := ⟨h.c, Nat.le_trans h.d hn⟩
theorem Sh.int {n : Nat} (i : Int) : Sh n (.int i) := ⟨rfl, Nat.zero_le _⟩
theorem Sh.non {n : Nat} : Sh n .none := ⟨rfl, Nat.zero_le _⟩
theorem Sh.bl {n : Nat} (b : Bool) : Sh n (.bool b) := ⟨rfl, Nat.zero_le _⟩
theorem Sh.str {n : Nat} {x : Str} (h : PyData.strOk x = true) : Sh n (.str x) := ⟨h, Nat.zero_le _⟩
theorem sh_all {n : Nat} : ∀ {ds : List PyData}, (∀ d ∈ ds, Sh n d) → PyData.canLayAll0 ds = true ∧ PyData.depthAll ds ≤ n
  | [], _ => ⟨rfl, Nat.zero_le _⟩
  | d :: ds, h => by
    have a := h d List.mem_cons_self
    have b := sh_all (ds := ds) fun e he => h e (List.mem_cons_of_mem _ he)
    refine ⟨?_, ?_⟩
    · show (d.canLay0 && PyData.canLayAll0 ds) = true
      rw [a.c, b.1]; rfl
    · show max d.depth (PyData.depthAll ds) ≤ n
      exact Nat.max_le.mpr ⟨a.d, b.2⟩
theorem Sh.list {n : Nat} {ds : List PyData} (h : ∀ d ∈ ds, Sh n d) : Sh (n + 1) (.list ds) := by
  have a := sh_all h
  refine ⟨?_, ?_⟩
  · show PyData.canLayAll0 ds = true
    exact a.1
  · show PyData.depthAll ds + 1 ≤ n + 1
    exact Nat.succ_le_succ a.2
theorem Sh.tup {n : Nat} {ds : List PyData} (h : ∀ d ∈ ds, Sh n d) : Sh (n + 1) (.tuple ds) := by
  have a := sh_all h
  refine ⟨?_, ?_⟩
  · show PyData.canLayAll0 ds = true
    exact a.1
  · show PyData.depthAll ds + 1 ≤ n + 1
    exact Nat.succ_le_succ a.2
theorem Sh.refl {n : Nat} {d : PyData} (h : Sh n d) : PyData.eqv d d = true := SeqAt.eqv_refl d h.c
theorem dp_ints {K : PySem.W.Frag} {H : Hp} : ∀ ns : List Int, DpAll K H (ns.map V.int) (ns.map PyData.int)
  | [] => .nil
  | _ :: ns => .cons (.int _) (dp_ints ns)
theorem sh_ints {n : Nat} (ns : List Int) : ∀ d ∈ ns.map PyData.int, Sh n d := fun d h => by
  obtain ⟨i, _, rfl⟩ := List.mem_map.mp h
  exact Sh.int i
/-- a promise that asks what never holds -/
theorem fn_none {P : Program} {w : World} {K : PySem.W.Frag} {mg : Str → Option Value} {base : Heap} {CX : CXT} {k : Nat} {f : Addr} {fd : FuncData} {ps : List Str} {sp : Sp} (h : ∀ vs H Q E, ¬ sp vs H Q E) : FnOk P w K mg base CX k f fd ps sp :=
  ⟨fun vs H Q E z => absurd z (h vs H Q E), fun A outer s H args us vs Q E _ _ _ _ z => absurd z (h vs H Q E)⟩
/-! ### specs by the number of arguments -/
def Sp0 (f : Hp → VK → XK → Prop) : Sp := fun vs H Q E => vs = [] ∧ f H Q E
def Sp1 (f : V → Hp → VK → XK → Prop) : Sp := fun vs H Q E => ∃ a, vs = [a] ∧ f a H Q E
def Sp2 (f : V → V → Hp → VK → XK → Prop) : Sp := fun vs H Q E => ∃ a b, vs = [a, b] ∧ f a b H Q E
def Sp3 (f : V → V → V → Hp → VK → XK → Prop) : Sp := fun vs H Q E => ∃ a b c, vs = [a, b, c] ∧ f a b c H Q E
def Sp4 (f : V → V → V → V → Hp → VK → XK → Prop) : Sp := fun vs H Q E => ∃ a b c d, vs = [a, b, c, d] ∧ f a b c d H Q E
def Sp5 (f : V → V → V → V → V → Hp → VK → XK → Prop) : Sp := fun vs H Q E => ∃ a b c d e, vs = [a, b, c, d, e] ∧ f a b c d e H Q E
end
end Z
/-! ### rows of values -/
namespace Z
open PySem PySem.Spec PyProof.Rows L2
def Row {α : Type} (R : α → V → Prop) (xs : List α) (vs : List V) : Prop := vs.length = xs.length ∧ ∀ (i : Nat) (x : α) (v : V), xs[i]? = some x → vs[i]? = some v → R x v
section
variable {α : Type} {R R' : α → V → Prop} {xs ys : List α} {vs ws : List V} {x : α} {v : V} {i : Nat}
theorem Row.nil : Row R [] [] := ⟨rfl, fun i x v h => by simp at h⟩
theorem Row.imp (h : Row R xs vs) (f : ∀ x v, x ∈ xs → R x v → R' x v) : Row R' xs vs := ⟨h.1, fun i x v a b => f _ _ (List.mem_of_getElem? a) (h.2 i x v a b)⟩
theorem Row.get (h : Row R xs vs) (e : xs[i]? = some x) : ∃ v, vs[i]? = some v ∧ R x v := by
  have hi := (List.getElem?_eq_some_iff.mp e).1
  have hj : i < vs.length := by rw [h.1]; exact hi
  exact ⟨vs[i], List.getElem?_eq_getElem hj, h.2 i x _ e (List.getElem?_eq_getElem hj)⟩
theorem Row.getv (h : Row R xs vs) (e : vs[i]? = some v) : ∃ x, xs[i]? = some x ∧ R x v := by
  have hi := (List.getElem?_eq_some_iff.mp e).1
  have hj : i < xs.length := by rw [← h.1]; exact hi
  exact ⟨xs[i], List.getElem?_eq_getElem hj, h.2 i _ v (List.getElem?_eq_getElem hj) e⟩
theorem Row.one (h : R x v) : Row R [x] [v] := ⟨rfl, fun i a b e f => by
  cases i with
  | zero => simp at e f; subst e; subst f; exact h
  | succ j => simp at e⟩
theorem Row.append (h : Row R xs vs) (g : Row R ys ws) : Row R (xs ++ ys) (vs ++ ws) := ⟨by rw [List.length_append, List.length_append, h.1, g.1], fun i a b e f => by
  by_cases c : i < xs.length
  · rw [List.getElem?_append_left c] at e
    rw [List.getElem?_append_left (by rw [h.1]; exact c)] at f
    exact h.2 i a b e f
  · rw [List.getElem?_append_right (by omega)] at e
    rw [List.getElem?_append_right (by rw [h.1]; omega), h.1] at f
    exact g.2 _ a b e f⟩
theorem Row.app (h : Row R xs vs) (g : R x v) : Row R (xs ++ [x]) (vs ++ [v]) := h.append (Row.one g)
theorem Row.cons (g : R x v) (h : Row R xs vs) : Row R (x :: xs) (v :: vs) := (Row.one g).append h
theorem Row.uncons {l : List V} (h : Row R (x :: xs) l) : ∃ v vs, l = v :: vs ∧ R x v ∧ Row R xs vs := by
  cases l with
  | nil => have := h.1; simp at this
  | cons v vs => exact ⟨v, vs, rfl, h.2 0 _ _ rfl rfl, by have := h.1; simpa using this, fun i a b e f => h.2 (i + 1) a b (by simpa using e) (by simpa using f)⟩
theorem Row.set (h : Row R xs vs) (g : R x v) : Row R (xs.set i x) (vs.set i v) := ⟨by rw [List.length_set, List.length_set, h.1], fun j a b e f => by
  by_cases c : i = j
  · subst c
    have hi := (List.getElem?_eq_some_iff.mp e).1
    rw [List.length_set] at hi
    rw [List.getElem?_set_self hi] at e
    rw [List.getElem?_set_self (by rw [h.1]; exact hi)] at f
    cases e; cases f; exact g
  · rw [List.getElem?_set_ne c] at e f
    exact h.2 j a b e f⟩
theorem Row.take (n : Nat) (h : Row R xs vs) : Row R (xs.take n) (vs.take n) := ⟨by rw [List.length_take, List.length_take, h.1], fun j a b e f => by
  rw [List.getElem?_take] at e f
  split at e
  · rename_i c; rw [if_pos c] at f; exact h.2 j a b e f
  · cases e⟩
theorem Row.drop (n : Nat) (h : Row R xs vs) : Row R (xs.drop n) (vs.drop n) := ⟨by rw [List.length_drop, List.length_drop, h.1], fun j a b e f => by
  rw [List.getElem?_drop] at e f
  exact h.2 _ a b e f⟩
theorem Row.len (h : Row R xs vs) : vs.length = xs.length := h.1
theorem Row.mp {β : Type} {f : β → α} {bs : List β} (h : Row R (bs.map f) vs) : Row (fun b v => R (f b) v) bs vs := ⟨by rw [h.1, List.length_map], fun i b v e g => h.2 i _ v (by rw [List.getElem?_map, e]; rfl) g⟩
theorem Row.mpr {β : Type} {f : β → α} {bs : List β} (h : Row (fun b v => R (f b) v) bs vs) : Row R (bs.map f) vs := ⟨by rw [h.1, List.length_map], fun i a v e g => by
  rw [List.getElem?_map] at e
  obtain ⟨b, e1, rfl⟩ := Option.map_eq_some_iff.mp e
  exact h.2 i b v e1 g⟩
end
/-- a tuple of ints -/
def TupI (H : Hp) (x : List Int) (v : V) : Prop := ∃ t, v = .ref t ∧ H t = some (.tup (x.map V.int))
def TupsAt (H : Hp) (xss : List (List Int)) (vs : List V) : Prop := Row (TupI H) xss vs
theorem TupI.mono {H H' : Hp} {x : List Int} {v : V} (S : TupS H H') (h : TupI H x v) : TupI H' x v := by
  obtain ⟨t, rfl, e⟩ := h
  exact ⟨t, rfl, S _ _ e⟩
theorem TupsAt.mono {H H' : Hp} {xss : List (List Int)} {vs : List V} (S : TupS H H') (h : TupsAt H xss vs) : TupsAt H' xss vs := Row.imp h fun _ _ _ r => r.mono S
/-- a list or a tuple of ints -/
def SeqI (K : PySem.W.Frag) (H : Hp) (x : List Int) (v : V) : Prop := ∃ t, v = .ref t ∧ (SqL K H t (x.map V.int) ∨ SqT K H t (x.map V.int))
theorem SeqI.same {K : PySem.W.Frag} {H H' : Hp} {x : List Int} {v : V} (S : Same H H') (h : SeqI K H x v) : SeqI K H' x v := by
  obtain ⟨t, rfl, e | e⟩ := h
  · exact ⟨t, rfl, .inl (S.seq e)⟩
  · exact ⟨t, rfl, .inr (same_sqT S e)⟩
theorem TupI.seq {K : PySem.W.Frag} {H : Hp} {x : List Int} {v : V} (h : TupI H x v) : SeqI K H x v := by
  obtain ⟨t, rfl, e⟩ := h
  exact ⟨t, rfl, .inr (SqT.of e)⟩
theorem tups_dp {K : PySem.W.Frag} {H : Hp} : ∀ {xss : List (List Int)} {vs : List V}, TupsAt H xss vs → DpAll K H vs (xss.map fun x => PyData.tuple (x.map PyData.int))
  | [], vs, h => by
    cases vs with
    | nil => exact .nil
    | cons _ _ => have := h.1; simp at this
  | x :: xss, vs, h => by
    obtain ⟨v, r, rfl, ⟨t, rfl, e⟩, g⟩ := Row.uncons h
    exact .cons (.tup (SqT.of e) (dp_ints x)) (tups_dp g)
theorem sh_tups {n : Nat} (xss : List (List Int)) : ∀ d ∈ xss.map (fun x => PyData.tuple (x.map PyData.int)), Sh (n + 1) d := fun d h => by
  obtain ⟨x, _, rfl⟩ := List.mem_map.mp h
  exact Sh.tup (sh_ints x)
/-- a pen: a list of a script and of numbers -/
def Pn (K : PySem.W.Frag) (n : Nat) (H : Hp) (p : Addr) : Prop := ∃ (sa : Addr) (ns ks : List Int), Scr K H sa ns ∧ ks.length = n ∧ (∀ x ∈ ks, 0 ≤ x) ∧ H p = some (.lst (.ref sa :: ks.map V.int))
section
variable {K : PySem.W.Frag} {H H' : Hp} {p q : Addr} {n : Nat} {o : HO}
theorem Pn.ne (h : Pn K n H p) (hq : H q = none) : q ≠ p := by
  obtain ⟨sa, ns, ks, hS, hl, hk, hp⟩ := h
  exact (ne_of_none hp hq).symm
theorem Pn.but (h : Pn K n H p) (B : But q H H') (m : p ≠ q) : Pn K n H' p := by
  obtain ⟨sa, ns, ks, hS, hl, hk, hp⟩ := h
  exact ⟨sa, ns, ks, hS.but B, hl, hk, B _ _ (.inl m) hp⟩
theorem Pn.butN (h : Pn K n H p) (B : But q H H') (m : q ≠ p) : Pn K n H' p := h.but B m.symm
theorem Pn.same (h : Pn K n H p) (S : Same H H') : Pn K n H' p := by
  obtain ⟨sa, ns, ks, hS, hl, hk, hp⟩ := h
  exact ⟨sa, ns, ks, hS.same S, hl, hk, S _ _ hp⟩
theorem Pn.new (h : Pn K n H p) (hq : H q = none) : Pn K n (upd H q o) p := h.same (same_new hq)
theorem Pn.tups (h : Pn K n H p) (B : But p H H') : TupS H H' := by
  obtain ⟨sa, ns, ks, hS, hl, hk, hp⟩ := h
  exact TupS.but B hp fun ys e => by cases e
theorem Pn.nei (h : Pn K n H p) {xs : List Int} (hq : H q = some (.lst (xs.map V.int))) : q ≠ p := by
  obtain ⟨sa, ns, ks, hS, hl, hk, hp⟩ := h
  exact ne_of hq hp (by
    intro z
    injection z with z
    cases xs with
    | nil => cases z
    | cons x xs => injection z with z _; cases z)
theorem Pn.net (h : Pn K n H p) {xs : List V} (hq : H q = some (.tup xs)) : q ≠ p := by
  obtain ⟨sa, ns, ks, hS, hl, hk, hp⟩ := h
  exact ne_of hq hp (by intro z; cases z)
end
theorem TupS.butL {p : Addr} {H H' : Hp} {xs : List V} (S : But p H H') (hp : H p = some (.lst xs)) : TupS H H' := TupS.but S hp fun ys e => by cases e
/-- is, of None or of truths -/
def rIsU : R2 := fun x y H Q => rIsNz x y H Q ∨ rIsB x y H Q
def rNotU : R2 := fun x y H Q => rNotNz x y H Q ∨ rNotB x y H Q
theorem op_isU {X : Cx} : OpR X (compareOp .Is) rIsU := OpR.or op_isNz op_isBl
theorem op_notU {X : Cx} : OpR X (compareOp .IsNot) rNotU := OpR.or op_notNz op_notBl
section
variable {K : PySem.W.Frag} {σ : L2.St} {H : Hp} {Q : VK} {N b c : L2.St → Hp → Prop} {r : VK} {te : TE} {x y : V} {i : Int} {n : Nat} {p q : Addr} {xs : List V} {j k : Bool}
theorem s_isU_n (h : rIsNz x .non H Q) : rIsU x .non H Q := .inl h
theorem s_notU_n (h : rNotNz x .non H Q) : rNotU x .non H Q := .inl h
theorem s_isU_b (h : Q (.bl (decide (j = k))) H) : rIsU (.bl j) (.bl k) H Q := .inr ⟨j, k, rfl, rfl, h⟩
theorem s_notU_b (h : Q (.bl (!decide (j = k))) H) : rNotU (.bl j) (.bl k) H Q := .inr ⟨j, k, rfl, rfl, h⟩
/-- an item of a literal list of ints -/
theorem s_ixI (ns : List Int) (h1 : SqL K H p xs) (e : xs = ns.map V.int) (h2 : 0 ≤ i) (h3 : i < ns.length) (h : ∀ w, w ∈ ns → ns[i.toNat]? = some w → Q (.int w) H) : rIx K (.ref p) (.int i) H Q := by
  subst e
  have hl : i.toNat < ns.length := by omega
  refine s_ix_l h1 (v := .int ns[i.toNat]) (at_of (j := i.toNat) (by omega) (by rw [List.getElem?_map, List.getElem?_eq_getElem hl]; rfl)) ?_
  exact h _ (List.getElem_mem _) (List.getElem?_eq_getElem hl)
theorem s_ixN {ns : List V} {m : Nat} {v : V} (h1 : SqL K H p ns) (h2 : ns[m]? = some v) (h : Q v H) : rIx K (.ref p) (.int (m : Int)) H Q := s_ix_l h1 (atI_nat h2) h
theorem s_ixTN {ns : List V} {m : Nat} {v : V} (h1 : SqT K H p ns) (h2 : ns[m]? = some v) (h : Q v H) : rIx K (.ref p) (.int (m : Int)) H Q := s_ix_t h1 (atI_nat h2) h
end
section
variable {K : PySem.W.Frag} {H : Hp} {Q : VK} {p q a : Addr} {xs : List V} {i : Int} {x : V} {te : TE} {σ : L2.St}
theorem tyx_l (h : SqL K H p xs) : TyX K H (.ref p) (.type "list") := by
  rcases h with (h | ⟨o, h⟩) | ⟨o, its, n, h, hc, _⟩
  · exact .base (.lst h)
  · exact .base (.frz h)
  · exact .kList h hc
theorem tyx_t (h : SqT K H p xs) : TyX K H (.ref p) (.type "tuple") := by
  rcases h with (h | ⟨o, h⟩) | ⟨o, its, n, h, hc, _⟩
  · exact .base (.tup h)
  · exact .fTuple h
  · exact .kTuple h hc
theorem kit_any2 {K : PySem.W.Frag} {a b c : String} {r r' : Bool} (h1 : kitB a b = some r) (h2 : kitB a c = some r') : PySem.W.kitAny K (.type a) [.type b, .type c] = some (r || r') := by
  unfold PySem.W.kitAny
  have e1 := kit_ty (K := K) h1
  have e2 := kit_ty (K := K) h2
  show (match PySem.W.kitOne K (.type a) (.type b) with | some true => some true | some false => PySem.W.kitAny K (.type a) [.type c] | none => none) = _
  rw [e1]
  cases r with
  | true => rfl
  | false =>
    show (match PySem.W.kitOne K (.type a) (.type c) with | some true => some true | some false => some false | none => none) = _
    rw [e2]
    cases r' <;> rfl
theorem s_isiT {cs : List V} {t : Value} {us : List Value} {bb : Bool} (h1 : H q = some (.tup cs)) (h2 : Paired ClsV cs us) (h3 : TyX K H x t) (h4 : PySem.W.kitAny K t us = some bb) (h : Q (.bl bb) H) : rIsi2 K [x, .ref q] H Q := .inr ⟨x, q, cs, t, us, bb, rfl, h1, h2, h3, h4, h⟩
theorem isi_lt_l (h1 : H q = some (.tup [.ty "list", .ty "tuple"])) (h2 : SqL K H p xs) (h : Q (.bl true) H) : rIsi2 K [.ref p, .ref q] H Q :=
  s_isiT h1 (.cons (.ty _) (.cons (.ty _) .nil)) (tyx_l h2) (kit_any2 (r := true) (r' := false) (by decide +kernel) (by decide +kernel)) h
theorem isi_lt_t (h1 : H q = some (.tup [.ty "list", .ty "tuple"])) (h2 : SqT K H p xs) (h : Q (.bl true) H) : rIsi2 K [.ref p, .ref q] H Q :=
  s_isiT h1 (.cons (.ty _) (.cons (.ty _) .nil)) (tyx_t h2) (kit_any2 (r := false) (r' := true) (by decide +kernel) (by decide +kernel)) h
theorem isi_list (h2 : SqL K H p xs) (h : Q (.bl true) H) : rIsi2 K [.ref p, .ty "list"] H Q := s_isi (bb := true) (.ty _) (tyx_l h2) (kit_ty (by decide +kernel)) h
theorem isi_tup (h2 : SqT K H p xs) (h : Q (.bl true) H) : rIsi2 K [.ref p, .ty "tuple"] H Q := s_isi (bb := true) (.ty _) (tyx_t h2) (kit_ty (by decide +kernel)) h
theorem isi_int (h : Q (.bl true) H) : rIsi2 K [.int i, .ty "int"] H Q := s_isi (bb := true) (.ty _) (.base (.int i)) (kit_ty (by decide +kernel)) h
theorem isi_int_bool (h : Q (.bl false) H) : rIsi2 K [.int i, .ty "bool"] H Q := s_isi (bb := false) (.ty _) (.base (.int i)) (kit_ty (by decide +kernel)) h
/-- for x in a list or a tuple -/
def iUn (K : PySem.W.Frag) (te : TE) : TI := fun σ H R => iList K te σ H R ∨ iTup K te σ H R
theorem pi_un {X : Cx} {tg e : Expr} {te : TE} (h : PE X e te) : PI X tg e (iUn X.K te) :=
  ⟨fun pins s σ H R I z => z.elim (fun z => (pi_list h).run pins s σ H R I z) fun z => (pi_tup h).run pins s σ H R I z⟩
theorem s_iun_l {R : It → Hp → Prop} (h : te σ H fun x H1 => zItL K x H1 R) : iUn K te σ H R := .inl h
theorem s_iun_t {R : It → Hp → Prop} (h : te σ H fun x H1 => zItT K x H1 R) : iUn K te σ H R := .inr h
end
/-- a list or a tuple that is gone through -/
def SqB (K : PySem.W.Frag) : Bool → Hp → Addr → List V → Prop
  | true, H, p, xs => SqL K H p xs
  | false, H, p, xs => SqT K H p xs
def Itu (K : PySem.W.Frag) (p : Addr) : Bool → It
  | true => Itl K p
  | false => Itt K p
theorem SqB.same {K : PySem.W.Frag} {k : Bool} {H H' : Hp} {p : Addr} {xs : List V} (S : Same H H') (h : SqB K k H p xs) : SqB K k H' p xs := by
  cases k with
  | true => exact S.seq h
  | false => exact same_sqT S h
theorem SqB.but {K : PySem.W.Frag} {k : Bool} {H H' : Hp} {p q : Addr} {xs : List V} (B : But q H H') (n : p ≠ q) (h : SqB K k H p xs) : SqB K k H' p xs := by
  cases k with
  | true => exact B.sqL n h
  | false => exact B.sqT n h
section
variable {K : PySem.W.Frag} {H : Hp} {Q : VK} {p q a : Addr} {xs : List V} {i : Int} {x : V} {te : TE} {σ : L2.St} {k : Bool} {g : TG} {N b c : L2.St → Hp → Prop} {r : VK} {t : TT} {n : Nat}
theorem s_iunV {R : It → Hp → Prop} (h : SqL K H p xs ∨ SqT K H p xs) (hv : σ[n]? = some (some (.ref p))) (hR : ∀ k, SqB K k H p xs → R (Itu K p k) H) : iUn K (tVar n) σ H R :=
  h.elim (fun z => .inl ⟨_, hv, p, rfl, ⟨xs, z⟩, hR true z⟩) fun z => .inr ⟨_, hv, p, rfl, ⟨xs, z⟩, hR false z⟩
theorem loop_un {tb1 : TS} (xs : List V) (Pv : Nat → L2.St → Hp → Prop) (h0 : Pv 0 σ H) (hl : ∀ i σ' H', i ≤ xs.length → Pv i σ' H' → SqB K k H' p xs)
    (hs : ∀ i x σ' H', xs[i]? = some x → Pv i σ' H' → g x σ' H' fun σ2 H2 => tb1 ⟨Pv (i + 1), r, N, Pv (i + 1)⟩ σ2 H2) (hd : ∀ σ' H', Pv xs.length σ' H' → N σ' H') : zLoop (Itu K p k) g tb1 ⟨N, r, b, c⟩ σ H := by
  cases k with
  | true => exact loop_list xs Pv h0 hl hs hd
  | false => exact loop_tup xs Pv h0 hl hs hd
theorem lc_un {vs : List Nat} (xs : List V) (Pv : Addr → Nat → Hp → Prop) (h0 : ∀ D, H D = none → Pv D 0 (upd H D (.lst []))) (hl : ∀ D i H', H D = none → i ≤ xs.length → Pv D i H' → SqB K k H' p xs)
    (hs : ∀ D i x H', H D = none → xs[i]? = some x → Pv D i H' → g x (wipe σ vs) H' fun σ2 H2 => zWipe vs σ σ2 (t σ2 H2 fun k H3 => zIf k (te σ2 H3 fun y H4 => zAcc D y H4 (Pv D (i + 1))) (Pv D (i + 1) H3)))
    (hd : ∀ D H', H D = none → Pv D xs.length H' → Q (.ref D) H') : zLc (Itu K p k) g t te vs σ H Q := by
  cases k with
  | true => exact lc_lst xs Pv h0 hl hs hd
  | false => exact lc_tp xs Pv h0 hl hs hd
/-- in a list or a tuple -/
theorem s_ixU {z : Int} {v : V} (h1 : SqL K H p xs ∨ SqT K H p xs) (h2 : atI xs z = some v) (h : Q v H) : rIx K (.ref p) (.int z) H Q := h1.elim (fun y => s_ix_l y h2 h) fun y => s_ix_t y h2 h
theorem s_lenU (h1 : SqL K H p xs ∨ SqT K H p xs) (h : Q (.int xs.length) H) : rLen K [.ref p] H Q := h1.elim (fun y => s_len_l y h) fun y => s_len_t y h
theorem s_gunU {tg : TGs} {NN : L2.St → Hp → Prop} (hs : SqL K H p xs ∨ SqT K H p xs) (hl : xs.length = n) (h : tg xs σ H NN) : gUn K n tg (.ref p) σ H NN := hs.elim (fun y => s_gun_l y hl h) fun y => s_gun_t y hl h
theorem s_listU (h1 : SqL K H p xs ∨ SqT K H p xs) (h : ∀ l, H l = none → Q (.ref l) (upd H l (.lst xs))) : rListOf K [.ref p] H Q := h1.elim (fun y => s_listof_l y h) fun y => s_listof_t y h
theorem isi_ltU (h1 : H q = some (.tup [.ty "list", .ty "tuple"])) (h2 : SqL K H p xs ∨ SqT K H p xs) (h : Q (.bl true) H) : rIsi2 K [.ref p, .ref q] H Q := h2.elim (fun y => isi_lt_l h1 y h) fun y => isi_lt_t h1 y h
end
theorem seqU_same {K : PySem.W.Frag} {H H' : Hp} {p : Addr} {xs : List V} (S : Same H H') (h : SqL K H p xs ∨ SqT K H p xs) : SqL K H' p xs ∨ SqT K H' p xs := h.imp S.seq (same_sqT S)
theorem seqU_but {K : PySem.W.Frag} {H H' : Hp} {p q : Addr} {xs : List V} (B : But q H H') (n : p ≠ q) (h : SqL K H p xs ∨ SqT K H p xs) : SqL K H' p xs ∨ SqT K H' p xs := h.imp (B.sqL n) (B.sqT n)
theorem inV_ints (i : Int) (ns : List Int) : inV (.int i) (ns.map V.int) = decide (i ∈ ns) := by
  unfold inV
  induction ns with
  | nil => simp
  | cons a ns ih =>
    rw [List.map_cons, List.any_cons, ih]
    have : eqV (.int a) (.int i) = decide (i = a) := by
      show (a == i) = _
      by_cases c : i = a
      · subst c; simp
      · rw [decide_eq_false c]; simpa using fun z => c z.symm
    rw [this]
    by_cases c : i = a <;> simp [c]
theorem cut_takeI (ys : List Int) (j : Nat) : cutV (ys.map V.int) none (some (j : Int)) = (ys.take j).map V.int := by
  unfold cutV
  rw [HT.sIx_none, HT.sIx_nat, List.drop_zero, Nat.sub_zero, List.length_map, ← List.map_take]
  congr 1
  by_cases h : j ≤ ys.length
  · rw [Nat.min_eq_left h]
  · rw [Nat.min_eq_right (by omega), List.take_of_length_le (by omega), List.take_of_length_le (by omega)]
theorem cut_dropI (ys : List Int) (j : Nat) : cutV (ys.map V.int) (some (j : Int)) none = (ys.drop j).map V.int := by
  unfold cutV
  rw [HT.sIx_none, HT.sIx_nat, List.length_map]
  by_cases h : j ≤ ys.length
  · rw [Nat.min_eq_left h, ← List.map_drop, List.take_of_length_le (by rw [List.length_map, List.length_drop]; omega)]
  · rw [Nat.min_eq_right (by omega), List.drop_eq_nil_of_le (by rw [List.length_map]; omega), List.drop_eq_nil_of_le (by omega)]
    simp
theorem SqB.of {K : PySem.W.Frag} {H : Hp} {p : Addr} {xs : List V} (h : SqL K H p xs ∨ SqT K H p xs) : ∃ k, SqB K k H p xs := h.elim (fun z => ⟨true, z⟩) fun z => ⟨false, z⟩
theorem SqB.or {K : PySem.W.Frag} {H : Hp} {p : Addr} {xs : List V} {k : Bool} (h : SqB K k H p xs) : SqL K H p xs ∨ SqT K H p xs := by
  cases k with
  | true => exact .inl h
  | false => exact .inr h
theorem s_iunB {K : PySem.W.Frag} {σ : L2.St} {H : Hp} {n : Nat} {p : Addr} {xs : List V} {k : Bool} {R : It → Hp → Prop} (h : SqB K k H p xs) (hv : σ[n]? = some (some (.ref p))) (hR : R (Itu K p k) H) : iUn K (tVar n) σ H R := by
  cases k with
  | true => exact .inl ⟨_, hv, p, rfl, ⟨xs, h⟩, hR⟩
  | false => exact .inr ⟨_, hv, p, rfl, ⟨xs, h⟩, hR⟩
theorem ixN_nat {n i : Nat} (h : i < n) : ixN n (i : Int) = some i := by
  unfold ixN
  rw [if_pos (by omega), if_pos (by omega), Int.toNat_natCast]
theorem s_iunE {K : PySem.W.Frag} {σ : L2.St} {H : Hp} {p : Addr} {xs : List V} {k : Bool} {te : TE} {R : It → Hp → Prop} (hte : ∀ Q : VK, Q (.ref p) H → te σ H Q) (h : SqB K k H p xs) (hR : R (Itu K p k) H) : iUn K te σ H R := by
  cases k with
  | true => exact .inl (hte _ ⟨p, rfl, ⟨xs, h⟩, hR⟩)
  | false => exact .inr (hte _ ⟨p, rfl, ⟨xs, h⟩, hR⟩)
theorem s_tupU {K : PySem.W.Frag} {H : Hp} {p : Addr} {xs : List V} {Q : VK} (h1 : SqL K H p xs ∨ SqT K H p xs) (h : ∀ l H', Same H H' → SqT K H' l xs → Q (.ref l) H') : rTupOf K [.ref p] H Q :=
  h1.elim (fun y => s_tupof_l y fun l hl => h l _ (same_new hl) (SqT.of upd_same)) fun y => s_tupof_t y (h p H (Same.refl _) y)
theorem at_neg1 {xs : List V} {v : V} (h : xs[xs.length - 1]? = some v) : atI xs (-1) = some v := by
  have hl := (List.getElem?_eq_some_iff.mp h).1
  have e : ixN xs.length (-1) = some (xs.length - 1) := by
    unfold ixN
    rw [if_neg (by omega), if_pos (by omega)]
    congr 1
    omega
  unfold atI
  rw [e]
  exact h
theorem sqL_ins {K : PySem.W.Frag} {H H' : Hp} {p l : Addr} {o : HO} {xs : List V} (hp : H p = some o) (no : ∀ ys, o ≠ .lst ys) (B : But p H H') (h : SqL K H l xs) : SqL K H' l xs := by
  rcases h with (h | ⟨u, h⟩) | h
  · exact .inl (.inl (B _ _ (.inl (ne_of h hp fun z => no _ z.symm)) h))
  · exact .inl (.inr ⟨u, B _ _ (.inr trivial) h⟩)
  · exact .inr h
theorem s_cutT {K : PySem.W.Frag} {H : Hp} {Q : VK} {a : Addr} {xs : List V} {lo hi : Option Int} (h1 : SqT K H a xs) (hn : ¬ (HT.sIx xs.length 0 lo = 0 ∧ HT.sIx xs.length xs.length hi = xs.length)) (h : ∀ p, H p = none → Q (.ref p) (upd H p (.tup (cutV xs lo hi)))) : rSlU K (.ref a) lo hi H Q :=
  .inr ⟨a, xs, rfl, h1, fun z => absurd z hn, fun _ => h⟩
theorem s_cutTw {K : PySem.W.Frag} {H : Hp} {Q : VK} {a : Addr} {xs : List V} {lo hi : Option Int} (h1 : SqT K H a xs) (hn : HT.sIx xs.length 0 lo = 0 ∧ HT.sIx xs.length xs.length hi = xs.length) (h : Q (.ref a) H) : rSlU K (.ref a) lo hi H Q :=
  .inr ⟨a, xs, rfl, h1, fun _ => h, fun z => absurd hn z⟩
theorem cut_front {xs : List V} {v : V} : cutV (xs ++ [v]) none (some (-1)) = xs := by
  have e : HT.sIx (xs ++ [v]).length (xs ++ [v]).length (some (-1)) = xs.length := by
    show (if (-1 : Int) < 0 then ((-1 : Int) + ((xs ++ [v]).length : Int)).toNat else min (-1 : Int).toNat (xs ++ [v]).length) = _
    rw [if_pos (by decide), List.length_append, List.length_singleton]
    omega
  unfold cutV
  rw [e]
  show List.take (xs.length - 0) (List.drop 0 _) = _
  rw [Nat.sub_zero, List.drop_zero, List.take_left]
/-! ### d.update(d2); ValueError.__init__ -/
theorem find_vei {K : PySem.W.Frag} : PySem.W.findCls K (.type "ValueError") (.type "type") "__init__" = some (.val (.builtin "ValueError.__init__")) := by kernel_rfl
def tDUpd (td ty : TE) : TE := fun σ H Q => td σ H fun x H1 => ∃ a, x = .ref a ∧ IsD H1 a ∧ ty σ H1 fun y H2 => ∃ (b : Addr) (kvs more : List (Key × V)), y = .ref b ∧ a ≠ b ∧ H2 a = some (.dK kvs) ∧ H2 b = some (.dK more) ∧ kvs.length + more.length ≤ 1000 ∧ Q .non (upd H2 a (.dK (mergeK kvs more)))
section
variable {X : Cx} {pins : List (Addr × Obj)} {σ : L2.St} {H : Hp} {s : Shared} {a b : Addr} {kvs more : List (Key × V)} {A : Around} {E : Value → Shared → Prop}
theorem d_update {Q : Value → Shared → Prop} (I : Inv X pins σ H s) (e : H a = some (.dK kvs)) (e2 : H b = some (.dK more)) (ne : a ≠ b) (hl : kvs.length + more.length ≤ 1000)
    (h : ∀ s', Inv X pins σ (upd H a (.dK (mergeK kvs more))) s' → Q .none s') : wpAny (model X.prog X.w) A (call (.builtin "dict.update") [.ref a, .ref b]) Q E s := by
  obtain ⟨z, hd, vs, rel, dd⟩ := dk_of I.hok e
  obtain ⟨z2, hd2, ws, rel2, dd2⟩ := dk_of I.hok e2
  have hz : vs.length + ws.length ≤ sizeLine := by
    rw [← rel.length, ← rel2.length]
    rw [sizeLine_eq]
    omega
  refine call_meetsIn PySem.F.slot_dict_update dd.typeIs PySem.F.entry_dict_update (PySem.F.args_dict_update_2 _ _) (meets_dict_update (mixKind X.prog X.w) a b ne hd2) ⟨vs, ws, dd, dd2, hz, fun h' dd' _ hs => h _ ?_⟩
  have he : ∃ q, h'.get? a = some q := let ⟨q, _, _, hq, _⟩ := dd'; ⟨q, hq⟩
  have hlen : (mergeK kvs more).length ≤ sizeLine := by
    refine Nat.le_trans (length_mergeK more kvs) ?_
    rw [sizeLine_eq]
    omega
  exact d_write (t' := s.toks) I (by rw [e]; exact True.intro) hs he (dk_new hlen hd (KV.merge rel2 rel) dd')
end
section
variable {X : Cx} {o e : Expr} {apos cpos : Pos} {td ty : TE}
theorem pe_dupd (ho : PE X o td) (he : PE X e ty) (m : M1 X o "update" apos e cpos) : PE X (.Call (.Attribute o "update" apos) [e] [] cpos) (tDUpd td ty) := by
  refine ⟨fun pins s σ H Q I h => ?_⟩
  refine wpAny_Call_method m.base m.few m.line PySem.F.plainAttrs_dict PySem.F.slot_dict_update PySem.F.type_dict_update (thn (ho.run pins s σ H _ I h) fun u s1 ⟨x, H1, I1, rx, a, ex, d, q1⟩ => ?_)
  subst ex
  obtain rfl : u = Value.ref a := rx
  obtain ⟨t1, t2, _⟩ := isD_at I1 d
  refine ⟨t1, t2, ?_⟩
  rw [m.trees]
  refine Calls.callWith_builtin rfl (Calls.evalArgs_plain (Calls.spliced_cons (thn (he.run pins s1 σ H1 _ I1 q1) fun iv s2 ⟨y, H2, I2, ry, b, kvs, more, ey, ne, ea, eb, hl, q2⟩ => Calls.spliced_nil ?_)))
  subst ey
  obtain rfl : iv = Value.ref b := ry
  exact d_update I2 ea eb ne hl fun s3 I3 => ⟨.non, _, I3, rfl, q2⟩
end
theorem s_dupd {td ty : TE} {σ : L2.St} {H : Hp} {Q : VK} (h : td σ H fun x H1 => ∃ a, x = .ref a ∧ IsD H1 a ∧ ty σ H1 fun y H2 => ∃ (b : Addr) (kvs more : List (Key × V)), y = .ref b ∧ a ≠ b ∧ H2 a = some (.dK kvs) ∧ H2 b = some (.dK more) ∧ kvs.length + more.length ≤ 1000 ∧ Q .non (upd H2 a (.dK (mergeK kvs more)))) : tDUpd td ty σ H Q := h
/-- list(range(n)) -/
def zRgL (x : V) (H : Hp) (Q : VK) : Prop := ∃ n, x = .int n ∧ RgOk 0 n ∧ ∀ q, H q = none → Q (.ref q) (upd H q (.lst (rgV 0 n)))
theorem s_lstRg {ta : TE} {σ : L2.St} {H : Hp} {Q : VK} (h : ta σ H fun x H1 => zRgL x H1 Q) : tLstRg (tRg1 ta) σ H Q := h
theorem s_zRgL {n : Int} {H : Hp} {Q : VK} (h1 : 0 ≤ n ∧ n ≤ 1000000) (h : ∀ q, H q = none → Q (.ref q) (upd H q (.lst (((List.range n.toNat).map fun i : Nat => (i : Int)).map V.int)))) : zRgL (.int n) H Q :=
  ⟨n, rfl, ⟨by omega, by omega, by omega, by omega, by omega⟩, fun q hq => by
    have e : rgV 0 n = ((List.range n.toNat).map fun i : Nat => (i : Int)).map V.int := by
      unfold rgV
      rw [Int.sub_zero, List.map_map]
      apply List.map_congr_left
      intro i _
      show V.int (0 + (i : Int)) = V.int (i : Int)
      rw [Int.zero_add]
    rw [e]; exact h q hq⟩
theorem merge {P : Hp → Prop} {G : Prop} (C : Hp → Prop) (h : (∀ H', C H' → P H') → G) (k : ∀ H', C H' → P H') : G := h k
theorem s_andp {u : TT} {σ : L2.St} {H : Hp} {QB : Bool → Hp → Prop} {k : Bool} (k2 : Bool) (hu : QB k2 H → u σ H QB) (h : QB (k && k2) H) : zIf k (u σ H QB) (QB false H) := by
  cases k
  · exact s_iff h
  · exact s_ift (hu h)
end Z
set_option Elab.async false
set_option linter.all false
set_option maxRecDepth 100000
set_option maxHeartbeats 4000000
/-! ### exceptions that are kept behind their clause -/
namespace Z
open PySem PySem.Spec PyProof.Rows L2
def kxo (a : Addr) (cls : Value) (d : Option Addr) : HO := .ext fun h => ∃ oe vs, h.get? a = some oe ∧ Zc cls d oe ∧ oe.data = .fields vs
theorem kxo_ok {P : Program} {w : World} {H : Hp} {h : Heap} {a : Addr} {cls : Value} {d : Option Addr} {oe : Obj} {vs : Array Value} (e : h.get? a = some oe) (z : Zc cls d oe) (f : oe.data = .fields vs) : ObjOk P w H h a (kxo a cls d) :=
  ⟨⟨oe, vs, e, z, f⟩, ⟨oe, e⟩, fun h1 h2 ⟨o1, v1, g1, g2, g3⟩ k => ⟨o1, v1, k _ g1, g2, g3⟩⟩
theorem kxo_at {P : Program} {w : World} {H : Hp} {h : Heap} {a : Addr} {cls : Value} {d : Option Addr} (hok : HOk P w H h) (e : H a = some (kxo a cls d)) : ∃ oe vs, h.get? a = some oe ∧ Zc cls d oe ∧ oe.data = .fields vs := by
  have x : ObjOk P w H h a (.ext fun h => ∃ oe vs, h.get? a = some oe ∧ Zc cls d oe ∧ oe.data = .fields vs) := hok a _ e
  exact x.1
section
variable {X : Cx} {pins pn' : List (Addr × Obj)} {σ : L2.St} {H : Hp} {s : Shared} {a : Addr} {oe : Obj} {vs : Array Value} {cls : Value} {d : Option Addr}
theorem inv_keep (ok : X.Ok) (I : Inv (X.suite a ((a, oe) :: (X.pn ++ pins))) pn' σ H s) (hz : Zc cls d oe) (hd : oe.data = .fields vs) (new : ∀ b o, X.s_0.heap.get? b = some o → b ≠ a) (np : ∀ p ∈ X.pn ++ pins, p.1 ≠ a) :
    Inv X pins σ (upd H a (kxo a cls d)) s := by
  obtain ⟨ha, na, nL, nF, nc⟩ := I.pin (a, oe) (List.mem_append_left _ List.mem_cons_self)
  have up : ∀ {b : Addr} {u : HO}, H b = some u → upd H a (kxo a cls d) b = some u := fun {b u} e => (upd_ne (ne_of_none e na)).trans e
  have B := I.base
  refine ⟨ok, I.os, I.bare, ⟨B.keep, B.slot, fun b o e n hx => (upd_ne (new b o e)).trans (B.free b o e n hx), B.there, fun b xs e => up (B.tups b xs e), fun b o u e => up (B.frzs b o u e), fun b ps e => ?_⟩, I.loc, I.cell, ?_, fun x c e => ?_, fun p hp => ?_, fun b o e => ?_, I.len⟩
  · obtain ⟨more, q⟩ := B.tbls b ps e
    exact ⟨more, up q⟩
  · exact (upd_ne nL.symm).trans I.free
  · refine (upd_ne fun z => ?_).trans (I.freeC x c e)
    obtain ⟨v, o, q, qd⟩ := I.cell x c e
    subst z
    cases (show s.heap.get? c = some oe from ha).symm.trans q
    exact nc v qd
  · obtain ⟨g1, g2, g3⟩ := I.pin p (List.mem_append_left _ (List.mem_cons_of_mem _ hp))
    exact ⟨g1, (upd_ne (np p hp)).trans g2, g3⟩
  · by_cases c : b = a
    · subst c
      rw [upd_same] at e
      cases e
      exact kxo_ok ha hz hd
    · rw [upd_ne c] at e
      exact (I.hok b o e).stay (fun _ _ _ q => q) (fun _ q => up q) fun _ _ q => up q
end
/-- what the clause wishes of an exception of the body: it is kept -/
def wKeep (K : PySem.W.Frag) (c : Value) (i : Nat) (ts : TS) (Wout : WX) (D : Ends) : WX := fun cls d σ H =>
  ∃ b, PySem.W.exmOne K cls c = some b ∧ (b = true → ∀ a, H a = none → ts ⟨fun σ' H' => H' a = none → D.nx (σ'.set i none) (upd H' a (kxo a cls d)), fun _ _ => False, fun _ _ => False, fun _ _ => False⟩ (σ.set i (some (.ref a))) H) ∧ (b = false → Wout cls d σ H)
def sTryKeep (K : PySem.W.Frag) (c : Value) (i : Nat) (tb : WX → TS) (ts : TS) (W : WX) : TS := fun D σ H => tb (wKeep K c i ts W D) D σ H
section
variable {X : Cx} {x n : Str} {c : Value} {i : Nat} {body suite : List Stmt} {b₀ : Stmt} {np pos pos' : Pos} {tb : WX → TS} {ts : TS} {Wout : WX}
theorem ps_try_keep (hs : X.stack = X.env :: X.outer) (hf : X.env.frame = some X.env.locals) (hex : X.ex = []) (hN : X.N.Nodup) (hi : X.N[i]? = some n) (hln : X.env.kindOf n = some .local) (hc : Names X x c) (tk : Takes X Wout)
    (hb : ∀ (W : WX) (pn : List (Addr × Obj)) (xe : Value → Shared → Prop), Takes (X.tr pn xe) W → PassesOwn (model X.prog X.w) X.A X.env xe → PSs (X.tr pn xe) body (tb W))
    (hsu : ∀ (a : Addr) (oe : Obj) (pn : List (Addr × Obj)), PSs (X.suite a ((a, oe) :: pn)) (b₀ :: suite) ts) :
    PS X (.Try body [.ExceptHandler (some (.Name x np)) (some n) (b₀ :: suite) pos'] [] [] pos) (sTryKeep X.K c i tb ts Wout) := by
  refine ⟨fun pins s σ H D I0 h0 => ?_⟩
  have okX := I0.ok
  have frX : X.A.frames = some (X.env :: X.outer) := by rw [← hs]; exact okX.frames
  refine wpAny_Try_except ?_
  refine wpAny_mono ((hb (wKeep X.K c i ts Wout D) (X.pn ++ pins)
    (fun er z1 => wpAny (model X.prog X.w) X.A (noteFrame er X.env) (fun _ z2 => wpAny (model X.prog X.w) X.A (setFlight er none)
      (fun _ z3 => wpAny (model X.prog X.w) X.A (handleBy er X.env [.ExceptHandler (some (.Name x np)) (some n) (b₀ :: suite) pos']) (SP X pins D) X.xe z3) X.xe z2) X.xe z1)
    (fun u t0 xx => ?_) PassesOwn.looking).run [] s σ H D (I0.toTry _) h0) (fun f t1 hsp => ?_) fun er t1 he => he
  · obtain ⟨p, G, sI, pins1, τ, H1, cls, d, rfl, J0, nb, up0, sky0, np1, os0, bare0, b, hb1, hyes, hno⟩ := xx
    have J1 : Inv X pins τ H1 sI := J0.ofTry okX
    have sky1 : Sky G (X.env :: X.outer) p (Zc cls d) X.env.locals t0.heap := by rw [← hs]; exact sky0
    show wpAny (model X.prog X.w) X.A (noteFrame (.ref p) X.env) _ _ _
    refine Sky.land Zc.steady frX hf sky1 fun g3 fl3 up3 => ?_
    have J3 : Inv X pins τ H1 { t0 with heap := g3 } := J1.landed nb fl3.1 (up0.trans up3) os0 bare0
    obtain ⟨o3, v3, e3, z3, d3⟩ := fl3.there
    have gG : G.get? p = none := fl3.2.1
    have nfr : p ∉ frs (X.env :: X.outer) := fun hm => by
      obtain ⟨_, o', e', hnf⟩ := fl3.2.2.1.mem hm
      rw [e3] at e'; cases e'
      exact hnf _ d3
    have nL : p ≠ X.env.locals := fun z => nfr (List.mem_filterMap.mpr ⟨X.env, List.mem_cons_self, by rw [hf, z]⟩)
    have nF : p ∉ X.fs := fun hm => by
      obtain ⟨er, he, q⟩ := List.mem_filterMap.mp hm
      exact nfr (List.mem_filterMap.mpr ⟨er, List.mem_cons_of_mem _ he, q⟩)
    have far : ∀ {b : Addr} {o : Obj}, sI.heap.get? b = some o → b ≠ p := fun {b o} e z => by
      subst z
      have := nb b o e (by rw [hs]; exact nfr)
      rw [gG] at this; cases this
    have newp : ∀ (b : Addr) (o : Obj), X.s_0.heap.get? b = some o → b ≠ p := fun b o e => by
      obtain ⟨o', e'⟩ := J1.base.there b o e (by rw [hex]; exact List.not_mem_nil)
      exact far e'
    have pinp : ∀ q ∈ X.pn ++ pins, q.1 ≠ p := fun q hq => far (J1.pin q hq).1
    have S3 := J3.suite e3 d3 np1 nL nF
    refine wpAny_handleBy_cons (codeAny_handlers_test ?_) (by intro q; cases q)
    have LT : PySem.W.Looks (model X.prog X.w) g3 (typeOf (.ref p)) cls := fun A Q E s k q => wpAny_typeOf_ref (k _ _ e3) (by rw [z3.1]; exact q)
    have LM := PySem.W.exm_one (M := model X.prog X.w) (J3.kIn) LT hb1
    have asks : ∀ {Q : Value → Shared → Prop} {E : Value → Shared → Prop}, Q c { t0 with heap := g3 } → wpAny (model X.prog X.w) (X.A.mark (some (.ref p))) (eval (.Name x np) X.env) Q E { t0 with heap := g3 } := fun {Q E} q => by
      obtain ⟨hg, hdbg, hm | ⟨hm, hv, hnn⟩⟩ := hc
      · exact ld_glob (X := X.suite p ((p, o3) :: (X.pn ++ pins))) S3 hg hm q hdbg
      · exact ld_blt (X := X.suite p ((p, o3) :: (X.pn ++ pins))) S3 hg hm hv q hnn hdbg
    refine asks (LM.here ?_)
    cases b with
    | false =>
      show wpAny _ X.A (handleBy (.ref p) X.env []) _ _ _
      refine wpAny_handleBy_nil ?_
      obtain ⟨k1, k2, k3, oe, ws, tr, otr, us, he, hz, hd, h1, hr⟩ := id fl3
      unfold PySem.passOn
      refine wpAny_bind (wpAny_field he hd h1 ?_)
      rw [if_neg (show ¬ ((Value.ref tr == Value.none) = true) from by simp)]
      have gone : wpAny (model X.prog X.w) X.A (setFlight (.ref p) X.env.frame) (fun _ s4 => wpAny (model X.prog X.w) X.A (throw (.ref p) : Sem Flow) (SP X pins D) X.xe s4) X.xe { t0 with heap := g3 } := by
        rw [hf]
        refine HandSPX.setFlight_upZ fl3 fun g4 hh4 up4 => wpAny_throw (tk _ _ ?_)
        exact ⟨p, G, sI, pins, τ, H1, cls, d, rfl, J1, nb, (up0.trans up3).trans up4, .inr (.inr (by rw [hs]; exact hh4)), np1, os0, bare0, hno rfl⟩
      first
        | exact wpAny_bind (wpAny_pure (wpAny_bind gone))
        | exact wpAny_bind gone
    | true =>
      refine codeAny_handlers_suite_as ?_
      refine HandSPX.lands_againZ fl3 fun g4 fl4 up4 => ?_
      have J4 : Inv X pins τ H1 { t0 with heap := g4 } := J1.landed nb fl4.1 ((up0.trans up3).trans up4) os0 bare0
      obtain ⟨o4, v4, e4, z4, d4⟩ := fl4.there
      have S4 := J4.suite e4 d4 np1 nL nF
      refine store_ok (X := X.suite p ((p, o4) :: (X.pn ++ pins))) (v := .ref p) S4 hN hi (.inl hln) rfl (fun s5 S5 => ?_) (.inr hln)
      refine wpAny_mono ((hsu p o4 (X.pn ++ pins)).run [] s5 _ H1 _ S5 (hyes rfl p np1)) (fun f s6 hsp => ?_) fun _ _ z => z.elim
      cases f with
      | next =>
        obtain ⟨σ6, H6, S6, q6⟩ := hsp
        have h6 : H6 p = none := (S6.pin (p, o4) (List.mem_append_left _ List.mem_cons_self)).2.1
        exact gone_ok (inv_keep okX S6 z4 d4 newp pinp) hN hi hln fun s7 J7 => ⟨_, _, J7, q6 h6⟩
      | brk =>
        obtain ⟨σ6, H6, S6, q6⟩ := hsp
        exact q6.elim
      | cont =>
        obtain ⟨σ6, H6, S6, q6⟩ := hsp
        exact q6.elim
      | ret u =>
        obtain ⟨v6, σ6, H6, S6, r6, q6⟩ := hsp
        exact q6.elim
  · cases f with
    | next =>
      obtain ⟨σ1, H1, J1, q⟩ := hsp
      exact wpAny_execs_nil ⟨σ1, H1, J1.ofTry okX, q⟩
    | brk =>
      obtain ⟨σ1, H1, J1, q⟩ := hsp
      exact ⟨σ1, H1, J1.ofTry okX, q⟩
    | cont =>
      obtain ⟨σ1, H1, J1, q⟩ := hsp
      exact ⟨σ1, H1, J1.ofTry okX, q⟩
    | ret u =>
      obtain ⟨v, σ1, H1, J1, r, q⟩ := hsp
      exact ⟨v, σ1, H1, J1.ofTry okX, r, q⟩
end
/-! ### what is asked of a kept exception -/
def rIsK (K : PySem.W.Frag) : List V → Hp → VK → Prop := fun xs H Q => ∃ (a D : Addr) (d : Option Addr) (c : V) (u : Value) (b : Bool), xs = [.ref a, c] ∧ H a = some (kxo a (.ref D) d) ∧ (∀ dd, d = some dd → ∃ fs, H dd = some (.xd fs)) ∧ ExcC K D ∧
  ((ClsV c u ∧ PySem.W.kitOne K (.ref D) u = some b) ∨ ∃ (q : Addr) (cs : List V) (us : List Value), c = .ref q ∧ H q = some (.tup cs) ∧ Paired ClsV cs us ∧ PySem.W.kitAny K (.ref D) us = some b) ∧ Q (.bl b) H
theorem kx_inst {X : Cx} {pins : List (Addr × Obj)} {σ : L2.St} {H : Hp} {s : Shared} {a D : Addr} {d : Option Addr} (I : Inv X pins σ H s) (e : H a = some (kxo a (.ref D) d)) (hd : ∀ dd, d = some dd → ∃ fs, H dd = some (.xd fs)) : ∃ ox od, PySem.W.InstAt s.heap a ox D od ∧ (∀ dd, d = some dd → ∃ o, od = some o ∧ s.heap.get? dd = some o) := by
  obtain ⟨oe, vs, g, z, f⟩ := kxo_at I.hok e
  cases d with
  | none =>
    refine ⟨oe, none, ⟨g, z.1, by unfold PySem.W.notCls; rw [f] <;> rfl, by rw [z.2]; trivial⟩, fun dd h => by cases h⟩
  | some dd =>
    obtain ⟨fs, hx⟩ := hd dd rfl
    have hx' : ObjOk X.prog X.w H s.heap dd (.xd fs) := I.hok dd _ hx
    obtain ⟨mA, hns, hr⟩ := hx'
    obtain ⟨od, ho, hl⟩ := lookIn_ns hns
    exact ⟨oe, some od, ⟨g, z.1, by unfold PySem.W.notCls; rw [f] <;> rfl, by rw [z.2]; exact ho⟩, fun d2 h => by cases h; exact ⟨od, rfl, ho⟩⟩
theorem call_isK {X : Cx} : CallR X (.builtin "isinstance") (rIsK X.K) := by
  intro pins s σ H xs us Q I r h
  obtain ⟨a, D, d, c, u, b, rfl, ha, hd, C, hc, q⟩ := h
  obtain ⟨u1, u2, rfl, r1, r2⟩ := vals2 r
  cases (show u1 = Value.ref a from r1)
  obtain ⟨ox, od, J, _⟩ := kx_inst I ha hd
  have Zk : PySem.W.KitX X.K (.ref a) (.ref D) (fun h => PySem.W.InstAt h a ox D od) := PySem.W.kitx_exc (by
    have := C.hd
    obtain ⟨cd, hcd, _⟩ := PySem.W.any_some this
    rw [hcd]; rfl) C.hg C.hk C.hs C.ha C.hn C.ht C.hm
  rcases hc with ⟨k, e⟩ | ⟨tp, cs, ws, rfl, hT, k, e⟩
  · cases k.eq r2
    exact PySem.W.kia_one Zk I.kIn J e (fun z => nomatch z) fun tk => ⟨.bl b, H, I.tok tk, rfl, q⟩
  · cases (show u2 = Value.ref tp from r2)
    obtain ⟨_, its, rv, o, h1, h2, n, h3⟩ := (show ObjOk X.prog X.w H s.heap tp (.tup cs) from I.hok tp _ hT)
    cases ClsV.all k rv
    obtain ⟨oc, od', dt, sl⟩ := o
    simp only at h2 h3
    subst h2 h3
    exact PySem.W.kia_tup Zk I.kIn J h1 e (fun z => nomatch z) fun tk => ⟨.bl b, H, I.tok tk, rfl, q⟩
def rIsi3 (K : PySem.W.Frag) : List V → Hp → VK → Prop := fun xs H Q => rIsi2 K xs H Q ∨ rIsK K xs H Q
theorem call_isi3 {X : Cx} : CallR X (.builtin "isinstance") (rIsi3 X.K) := fun pins s σ H vs us Q I r h => h.elim (fun z => call_isi' pins s σ H vs us Q I r z) fun z => call_isK pins s σ H vs us Q I r z
/-- e.f of a kept exception -/
def zKf (K : PySem.W.Frag) (f : Str) (x : V) (H : Hp) (Q : VK) : Prop := ∃ (a C dd : Addr) (fs : List (Str × V)) (v : V), x = .ref a ∧ H a = some (kxo a (.ref C) (some dd)) ∧ XfC K C ∧ PySem.W.findIn K (.ref C) f = some none ∧ H dd = some (.xd fs) ∧ fs.lookup f = some v ∧ Q v H
def tKf (K : PySem.W.Frag) (te : TE) (f : Str) : TE := fun σ H Q => te σ H fun x H1 => zKf K f x H1 Q
theorem s_kf {K : PySem.W.Frag} {te : TE} {f : Str} {σ : L2.St} {H : Hp} {Q : VK} (h : te σ H fun x H1 => zKf K f x H1 Q) : tKf K te f σ H Q := h
theorem pe_kf {X : Cx} {e : Expr} {te : TE} {pos : Pos} {n : Str} (he : PE X e te) (hb : attributeBase e n X.env (eval e X.env) = eval e X.env := by rfl) : PE X (.Attribute e n pos) (tKf X.K te n) := by
  refine ⟨fun pins s σ H Q I h => ?_⟩
  refine attr_of hb (thn (he.run pins s σ H _ I h) fun u s1 ⟨x, H1, I1, rx, a, C, dd, fs, v, ex, ea, T, hno, ed, l, q⟩ => ?_)
  subst ex
  cases (show u = Value.ref a from rx)
  obtain ⟨oe, vs, g, z, f⟩ := kxo_at I1.hok ea
  have hx' : ObjOk X.prog X.w H1 s1.heap dd (.xd fs) := I1.hok dd _ ed
  obtain ⟨mA, hns, hr⟩ := hx'
  obtain ⟨od, ho, hl⟩ := lookIn_ns hns
  obtain ⟨u, hu, ru⟩ := RelO.some_of (v := v) (o := mA n) (by rw [← l]; exact hr n)
  have J : PySem.W.InstAt s1.heap a oe C (some od) := ⟨g, z.1, by unfold PySem.W.notCls; rw [f] <;> rfl, by rw [z.2]; exact ho⟩
  exact HandSPX.exc_get I1.kIn J T.ga T.gg T.exC (PySem.W.findObj_own T.hdC hno rfl (by rw [hl, hu])) (handed_of ru) ⟨v, H1, I1.tok _, ru, q⟩
/-- a kept exception of a class with fields -/
structure Kept (H : Hp) (a D d : Addr) (fs : List (Str × V)) : Prop where
  k : H a = some (kxo a (.ref D) (some d))
  d : H d = some (.xd fs)
theorem Kept.of {H : Hp} {a D d : Addr} {fs : List (Str × V)} (na : H a = none) (h : H d = some (.xd fs)) : Kept (upd H a (kxo a (.ref D) (some d))) a D d fs := ⟨upd_same, (upd_ne (ne_of_none h na)).trans h⟩
theorem Kept.same {H H' : Hp} {a D d : Addr} {fs : List (Str × V)} (h : Kept H a D d fs) (S : Same H H') : Kept H' a D d fs := ⟨S _ _ h.k, S _ _ h.d⟩
theorem Kept.ne {H : Hp} {a D d p : Addr} {fs : List (Str × V)} {o : HO} (h : Kept H a D d fs) (hp : H p = some o) (n1 : ∀ φ, o ≠ .ext φ) (n2 : ∀ gs, o ≠ .xd gs) : a ≠ p ∧ d ≠ p := ⟨ne_of h.k hp fun z => n1 _ z.symm, ne_of h.d hp fun z => n2 _ z.symm⟩
theorem Kept.but {H H' : Hp} {a D d p : Addr} {fs : List (Str × V)} {o : HO} (h : Kept H a D d fs) (B : But p H H') (hp : H p = some o) (n1 : ∀ φ, o ≠ .ext φ) (n2 : ∀ gs, o ≠ .xd gs) : Kept H' a D d fs := by
  obtain ⟨m1, m2⟩ := h.ne hp n1 n2
  exact ⟨B.rd m1 h.k, B.rd m2 h.d⟩
section
variable {K : PySem.W.Frag} {H : Hp} {Q : VK} {a D d c q : Addr} {fs : List (Str × V)} {b : Bool} {f : Str} {v : V} {cs : List V} {us : List Value}
theorem s_isKo (h : Kept H a D d fs) (C : ExcC K D) (e : PySem.W.kitOne K (.ref D) (.ref c) = some b) (g : Q (.bl b) H) : rIsi3 K [.ref a, .ref c] H Q :=
  .inr ⟨a, D, some d, .ref c, .ref c, b, rfl, h.k, fun dd z => by cases z; exact ⟨_, h.d⟩, C, .inl ⟨.own c, e⟩, g⟩
theorem s_isKv (h : Kept H a D d fs) (C : ExcC K D) (e : PySem.W.kitOne K (.ref D) (.type "ValueError") = some b) (g : Q (.bl b) H) : rIsi3 K [.ref a, .ty "ValueError"] H Q :=
  .inr ⟨a, D, some d, .ty "ValueError", .type "ValueError", b, rfl, h.k, fun dd z => by cases z; exact ⟨_, h.d⟩, C, .inl ⟨.ty _, e⟩, g⟩
theorem s_isKt (h : Kept H a D d fs) (C : ExcC K D) (hq : H q = some (.tup cs)) (k : Paired ClsV cs us) (e : PySem.W.kitAny K (.ref D) us = some b) (g : Q (.bl b) H) : rIsi3 K [.ref a, .ref q] H Q :=
  .inr ⟨a, D, some d, .ref q, .none, b, rfl, h.k, fun dd z => by cases z; exact ⟨_, h.d⟩, C, .inr ⟨q, cs, us, rfl, hq, k, e⟩, g⟩
theorem s_isNo (h : H a = some (kxo a (.ref D) none)) (C : ExcC K D) (e : PySem.W.kitOne K (.ref D) (.ref c) = some b) (g : Q (.bl b) H) : rIsi3 K [.ref a, .ref c] H Q :=
  .inr ⟨a, D, none, .ref c, .ref c, b, rfl, h, fun dd z => (by cases z), C, .inl ⟨.own c, e⟩, g⟩
theorem s_isNv (h : H a = some (kxo a (.ref D) none)) (C : ExcC K D) (e : PySem.W.kitOne K (.ref D) (.type "ValueError") = some b) (g : Q (.bl b) H) : rIsi3 K [.ref a, .ty "ValueError"] H Q :=
  .inr ⟨a, D, none, .ty "ValueError", .type "ValueError", b, rfl, h, fun dd z => (by cases z), C, .inl ⟨.ty _, e⟩, g⟩
theorem s_isNt (h : H a = some (kxo a (.ref D) none)) (C : ExcC K D) (hq : H q = some (.tup cs)) (k : Paired ClsV cs us) (e : PySem.W.kitAny K (.ref D) us = some b) (g : Q (.bl b) H) : rIsi3 K [.ref a, .ref q] H Q :=
  .inr ⟨a, D, none, .ref q, .none, b, rfl, h, fun dd z => (by cases z), C, .inr ⟨q, cs, us, rfl, hq, k, e⟩, g⟩
theorem s_zkf (h : Kept H a D d fs) (X : XfC K D) (n : PySem.W.findIn K (.ref D) f = some none) (l : fs.lookup f = some v) (g : Q v H) : zKf K f (.ref a) H Q := ⟨a, D, d, fs, v, rfl, h.k, X, n, h.d, l, g⟩
theorem kitAny_no {t c : Value} {cs : List Value} {r : Bool} (h : PySem.W.kitOne K t c = some false) (g : PySem.W.kitAny K t cs = some r) : PySem.W.kitAny K t (c :: cs) = some r := kitAny_cons h (fun _ => g) fun z => by cases z
theorem kitAny_yes {t c : Value} {cs : List Value} (h : PySem.W.kitOne K t c = some true) : PySem.W.kitAny K t (c :: cs) = some true := kitAny_cons h (fun z => by cases z) fun _ => rfl
theorem kit_mkV {K : PySem.W.Frag} {S : Addr} (h : PySem.W.subIn K (.ref S) (.type "ValueError") = some true) : PySem.W.kitOne K (.ref S) (.type "ValueError") = some true := by
  unfold PySem.W.kitOne PySem.W.kitCls
  rw [if_neg (by intro z; cases beq_iff_eq.mp z)]
  show (if PySem.W.kitMeta "ValueError" = true then PySem.W.subIn K (.ref S) (.type "ValueError") else none) = some true
  rw [if_pos (by decide +kernel)]
  exact h
theorem kit_mkR {K : PySem.W.Frag} {S C : Addr} {b : Bool} (h1 : PySem.W.isClsIn K C = true) (h2 : PySem.W.typeIn K (.ref C) = some (.type "type")) (h3 : PySem.W.subIn K (.ref S) (.ref C) = some b) (h4 : PySem.W.subIn K (.ref S) (.ref S) = some true) : PySem.W.kitOne K (.ref S) (.ref C) = some b := by
  unfold PySem.W.kitOne PySem.W.kitCls
  by_cases e : (Value.ref S == Value.ref C) = true
  · rw [if_pos e]
    cases Value.ref.inj (beq_iff_eq.mp e)
    rw [h4] at h3
    exact h3
  · rw [if_neg e]
    have e2 : ((PySem.W.clsIn K C).isSome && PySem.W.typeIn K (.ref C) == some (.type "type")) = true := by
      have h1' : (PySem.W.clsIn K C).isSome = true := h1
      rw [h1', h2] <;> rfl
    show (if ((PySem.W.clsIn K C).isSome && PySem.W.typeIn K (.ref C) == some (.type "type")) = true then PySem.W.subIn K (.ref S) (.ref C) else none) = some b
    rw [if_pos e2]
    exact h3
theorem s_isi3 {xs : List V} (h : rIsi2 K xs H Q) : rIsi3 K xs H Q := .inl h
end
theorem s_tryKeep {N b c : L2.St → Hp → Prop} {r : VK} {K : PySem.W.Frag} {σ : L2.St} {H : Hp} {i : Nat} {cc : Value} {tbw : WX → TS} {ts : TS} {W : WX} (h : tbw (wKeep K cc i ts W ⟨N, r, b, c⟩) ⟨N, r, b, c⟩ σ H) : sTryKeep K cc i tbw ts W ⟨N, r, b, c⟩ σ H := h
end Z
namespace My
open PySem L2 Z

def top (i : Nat) : Stmt := PySem.Challenge.pw_ownchain_k03_where_it_is_none.main.body.getD i (.Pass ⟨0, 0, 0, 0⟩)
abbrev st_NoSheet_init : Stmt := inClass (top 2) 0
abbrev nm_NoSheet_init : List Str := ["self", "place", "word"]
abbrev st_parts_of : Stmt := top 19
abbrev nm_parts_of : List Str := ["kind"]
abbrev st_Look_init : Stmt := inClass (top 26) 0
abbrev nm_Look_init : List Str := ["self", "numbers"]
abbrev st_Look_due : Stmt := inClass (top 26) 1
abbrev nm_Look_due : List Str := ["self"]
abbrev st_Look_within : Stmt := inClass (top 26) 2
abbrev nm_Look_within : List Str := ["self", "low", "high", "number"]
abbrev st_heads_in : Stmt := top 27
abbrev nm_heads_in : List Str := ["look", "found", "function", "params"]
abbrev st_own_numbers : Stmt := top 28
abbrev nm_own_numbers : List Str := ["look", "heads", "boxes", "kind", "many", "function"]
abbrev st_node_in : Stmt := top 29
abbrev nm_node_in : List Str := ["look", "heads", "boxes", "deep", "place", "kind", "numbers", "many", "parts", "part"]
abbrev st_functions : Stmt := top 30
abbrev nm_functions : List Str := ["sheet", "look", "heads", "found", "params", "boxes"]
abbrev st_wrong : Stmt := top 31
abbrev nm_wrong : List Str := ["numbers", "found", "e"]
abbrev st_nodes_in : Stmt := top 32
abbrev nm_nodes_in : List Str := ["node", "found", "part"]
abbrev st_nodes : Stmt := top 33
abbrev nm_nodes : List Str := ["sheet", "found", "params", "boxes", "body"]
abbrev st_Lmixed : Stmt := top 35
abbrev nm_Lmixed : List Str := ["_law_cell", "_law_k", "_law_one", "_law_two"]
abbrev st_Ltake : Stmt := top 36
abbrev nm_Ltake : List Str := ["_law_state", "_law_many", "_law_script", "_law_k", "_law_cell", "_law_found"]
abbrev st_Lheads : Stmt := top 37
abbrev nm_Lheads : List Str := ["_law_state", "_law_many", "_law_heads_here", "_law_k", "_law_params"]
abbrev st_Lnumber : Stmt := top 38
abbrev nm_Lnumber : List Str := ["_law_state", "_law_way"]
abbrev st_Lleaf : Stmt := top 39
abbrev nm_Lleaf : List Str := ["_law_state", "_law_boxes", "_law_way"]
abbrev st_Lhead : Stmt := top 40
abbrev nm_Lhead : List Str := ["_law_state", "_law_heads_here", "_law_boxes", "_law_kind", "_law_many", "_law_function"]
abbrev st_Lnode : Stmt := top 41
abbrev nm_Lnode : List Str := ["_law_state", "_law_heads_here", "_law_boxes", "_law_deep", "_law_room", "_law_found", "_law_many", "_law_part"]
abbrev st_Lsheet : Stmt := top 42
abbrev nm_Lsheet : List Str := ["_law_state", "_law_most", "_law_heads_here", "_law_found", "_law_params", "_law_boxes"]
abbrev st_Lown : Stmt := top 43
abbrev nm_Lown : List Str := ["_law_sheet_here", "_law_at", "_law_boxes", "_law_kind"]
abbrev st_Lparts : Stmt := top 44
abbrev nm_Lparts : List Str := ["_law_sheet_here", "_law_at", "_law_kind"]
abbrev st_Lhead_wrong : Stmt := top 45
abbrev nm_Lhead_wrong : List Str := ["_law_sheet_here", "_law_at"]
abbrev st_Lwrong : Stmt := top 46
abbrev nm_Lwrong : List Str := ["_law_sheet_here", "_law_found", "_law_wait", "_law_at", "_law_deep", "_law_boxes", "_law_own_here", "_law_low", "_law_high", ".0", "_law_k"]
abbrev st_Lbent : Stmt := top 47
abbrev nm_Lbent : List Str := ["_law_state", "_law_sheet_here", "_law_found", "_law_turn", "_law_at", "_law_number_here", "_law_way", "_law_some"]
abbrev st_Lheard : Stmt := top 48
abbrev nm_Lheard : List Str := ["_law_way", "_law_sheet_here", "_law_caught", "_law_found", "e", "_law_others"]
abbrev st_Ledge : Stmt := top 49
abbrev nm_Ledge : List Str := ["_law_state", "_law_way", "_law_more", "_law_many", "_law_boxes"]
abbrev st_law : Stmt := top 50
abbrev nm_law : List Str := ["_law_script", "_law_state", "_law_first", "_law_turn", "_law_sheet_here", "_law_due", "_law_handed", "_law_found"]
/-- where the top's things stand -/
structure Adr where
  K : PySem.W.Frag
  mg : Str → Option Value
  t_NUMBER : Tok
  t_GET : Tok
  t_SET : Tok
  t_ALL : Tok
  t_PICK : Tok
  t_LOOP : Tok
  t_CALL : Tok
  t_FAIL : Tok
  t_PUT : Tok
  t_SIZE : Tok
  t_NEW : Tok
  t_MOST_FUNCTIONS : Tok
  t_MOST_PARAMS : Tok
  t_MOST_BOXES : Tok
  t_MOST_PARTS : Tok
  t_MOST_DEEP : Tok
  c_ChainError : Addr
  c_NoSheet : Addr
  c_NoText : Addr
  c_NoCode : Addr
  c_NoRow : Addr
  c_NoName : Addr
  c_Look : Addr
  f_NoSheet_init : Addr
  d_NoSheet_init : FuncData
  f_parts_of : Addr
  d_parts_of : FuncData
  f_Look_init : Addr
  d_Look_init : FuncData
  f_Look_due : Addr
  d_Look_due : FuncData
  f_Look_within : Addr
  d_Look_within : FuncData
  f_heads_in : Addr
  d_heads_in : FuncData
  f_own_numbers : Addr
  d_own_numbers : FuncData
  f_node_in : Addr
  d_node_in : FuncData
  f_functions : Addr
  d_functions : FuncData
  f_wrong : Addr
  d_wrong : FuncData
  f_nodes_in : Addr
  d_nodes_in : FuncData
  f_nodes : Addr
  d_nodes : FuncData
  f_Lmixed : Addr
  d_Lmixed : FuncData
  f_Ltake : Addr
  d_Ltake : FuncData
  f_Lheads : Addr
  d_Lheads : FuncData
  f_Lnumber : Addr
  d_Lnumber : FuncData
  f_Lleaf : Addr
  d_Lleaf : FuncData
  f_Lhead : Addr
  d_Lhead : FuncData
  f_Lnode : Addr
  d_Lnode : FuncData
  f_Lsheet : Addr
  d_Lsheet : FuncData
  f_Lown : Addr
  d_Lown : FuncData
  f_Lparts : Addr
  d_Lparts : FuncData
  f_Lhead_wrong : Addr
  d_Lhead_wrong : FuncData
  f_Lwrong : Addr
  d_Lwrong : FuncData
  f_Lbent : Addr
  d_Lbent : FuncData
  f_Lheard : Addr
  d_Lheard : FuncData
  f_Ledge : Addr
  d_Ledge : FuncData
  f_law : Addr
  d_law : FuncData
/-- what is known of them -/
structure Top (Z : Adr) : Prop where
  g_NUMBER : Z.mg "NUMBER" = some (.int 0 Z.t_NUMBER)
  g_GET : Z.mg "GET" = some (.int 1 Z.t_GET)
  g_SET : Z.mg "SET" = some (.int 2 Z.t_SET)
  g_ALL : Z.mg "ALL" = some (.int 3 Z.t_ALL)
  g_PICK : Z.mg "PICK" = some (.int 4 Z.t_PICK)
  g_LOOP : Z.mg "LOOP" = some (.int 5 Z.t_LOOP)
  g_CALL : Z.mg "CALL" = some (.int 6 Z.t_CALL)
  g_FAIL : Z.mg "FAIL" = some (.int 7 Z.t_FAIL)
  g_PUT : Z.mg "PUT" = some (.int 17 Z.t_PUT)
  g_SIZE : Z.mg "SIZE" = some (.int 18 Z.t_SIZE)
  g_NEW : Z.mg "NEW" = some (.int 19 Z.t_NEW)
  g_MOST_FUNCTIONS : Z.mg "MOST_FUNCTIONS" = some (.int 16 Z.t_MOST_FUNCTIONS)
  g_MOST_PARAMS : Z.mg "MOST_PARAMS" = some (.int 4 Z.t_MOST_PARAMS)
  g_MOST_BOXES : Z.mg "MOST_BOXES" = some (.int 12 Z.t_MOST_BOXES)
  g_MOST_PARTS : Z.mg "MOST_PARTS" = some (.int 12 Z.t_MOST_PARTS)
  g_MOST_DEEP : Z.mg "MOST_DEEP" = some (.int 10 Z.t_MOST_DEEP)
  n_ValueError : Z.mg "ValueError" = none
  n_abs : Z.mg "abs" = none
  n_bool : Z.mg "bool" = none
  n_int : Z.mg "int" = none
  n_isinstance : Z.mg "isinstance" = none
  n_len : Z.mg "len" = none
  n_list : Z.mg "list" = none
  n_range : Z.mg "range" = none
  n_tuple : Z.mg "tuple" = none
  F_NoSheet_init : Fun Z.K "__init__" "NoSheet.__init__" st_NoSheet_init Z.f_NoSheet_init Z.d_NoSheet_init
  b_NoSheet_init : Binds Z.K Z.d_NoSheet_init ["self", "place", "word"] []
  F_parts_of : Fun Z.K "parts_of" "parts_of" st_parts_of Z.f_parts_of Z.d_parts_of
  m_parts_of : Z.mg "parts_of" = some (.ref Z.f_parts_of)
  b_parts_of : Binds Z.K Z.d_parts_of ["kind"] []
  F_Look_init : Fun Z.K "__init__" "Look.__init__" st_Look_init Z.f_Look_init Z.d_Look_init
  b_Look_init : Binds Z.K Z.d_Look_init ["self", "numbers"] []
  F_Look_due : Fun Z.K "due" "Look.due" st_Look_due Z.f_Look_due Z.d_Look_due
  b_Look_due : Binds Z.K Z.d_Look_due ["self"] []
  F_Look_within : Fun Z.K "within" "Look.within" st_Look_within Z.f_Look_within Z.d_Look_within
  b_Look_within : Binds Z.K Z.d_Look_within ["self", "low", "high"] []
  F_heads_in : Fun Z.K "heads_in" "heads_in" st_heads_in Z.f_heads_in Z.d_heads_in
  m_heads_in : Z.mg "heads_in" = some (.ref Z.f_heads_in)
  b_heads_in : Binds Z.K Z.d_heads_in ["look"] []
  F_own_numbers : Fun Z.K "own_numbers" "own_numbers" st_own_numbers Z.f_own_numbers Z.d_own_numbers
  m_own_numbers : Z.mg "own_numbers" = some (.ref Z.f_own_numbers)
  b_own_numbers : Binds Z.K Z.d_own_numbers ["look", "heads", "boxes", "kind"] []
  F_node_in : Fun Z.K "node_in" "node_in" st_node_in Z.f_node_in Z.d_node_in
  m_node_in : Z.mg "node_in" = some (.ref Z.f_node_in)
  b_node_in : Binds Z.K Z.d_node_in ["look", "heads", "boxes", "deep"] []
  F_functions : Fun Z.K "functions" "functions" st_functions Z.f_functions Z.d_functions
  m_functions : Z.mg "functions" = some (.ref Z.f_functions)
  b_functions : Binds Z.K Z.d_functions ["sheet"] []
  F_wrong : Fun Z.K "wrong" "wrong" st_wrong Z.f_wrong Z.d_wrong
  m_wrong : Z.mg "wrong" = some (.ref Z.f_wrong)
  b_wrong : Binds Z.K Z.d_wrong ["numbers"] []
  F_nodes_in : Fun Z.K "nodes_in" "nodes_in" st_nodes_in Z.f_nodes_in Z.d_nodes_in
  m_nodes_in : Z.mg "nodes_in" = some (.ref Z.f_nodes_in)
  b_nodes_in : Binds Z.K Z.d_nodes_in ["node"] []
  F_nodes : Fun Z.K "nodes" "nodes" st_nodes Z.f_nodes Z.d_nodes
  m_nodes : Z.mg "nodes" = some (.ref Z.f_nodes)
  b_nodes : Binds Z.K Z.d_nodes ["sheet"] []
  F_Lmixed : Fun Z.K "_law_mixed" "_law_mixed" st_Lmixed Z.f_Lmixed Z.d_Lmixed
  m_Lmixed : Z.mg "_law_mixed" = some (.ref Z.f_Lmixed)
  b_Lmixed : Binds Z.K Z.d_Lmixed ["_law_cell", "_law_k"] []
  F_Ltake : Fun Z.K "_law_take" "_law_take" st_Ltake Z.f_Ltake Z.d_Ltake
  m_Ltake : Z.mg "_law_take" = some (.ref Z.f_Ltake)
  b_Ltake : Binds Z.K Z.d_Ltake ["_law_state", "_law_many"] []
  F_Lheads : Fun Z.K "_law_heads" "_law_heads" st_Lheads Z.f_Lheads Z.d_Lheads
  m_Lheads : Z.mg "_law_heads" = some (.ref Z.f_Lheads)
  b_Lheads : Binds Z.K Z.d_Lheads ["_law_state"] []
  F_Lnumber : Fun Z.K "_law_number" "_law_number" st_Lnumber Z.f_Lnumber Z.d_Lnumber
  m_Lnumber : Z.mg "_law_number" = some (.ref Z.f_Lnumber)
  b_Lnumber : Binds Z.K Z.d_Lnumber ["_law_state"] []
  F_Lleaf : Fun Z.K "_law_leaf" "_law_leaf" st_Lleaf Z.f_Lleaf Z.d_Lleaf
  m_Lleaf : Z.mg "_law_leaf" = some (.ref Z.f_Lleaf)
  b_Lleaf : Binds Z.K Z.d_Lleaf ["_law_state", "_law_boxes"] []
  F_Lhead : Fun Z.K "_law_head" "_law_head" st_Lhead Z.f_Lhead Z.d_Lhead
  m_Lhead : Z.mg "_law_head" = some (.ref Z.f_Lhead)
  b_Lhead : Binds Z.K Z.d_Lhead ["_law_state", "_law_heads_here", "_law_boxes"] []
  F_Lnode : Fun Z.K "_law_node" "_law_node" st_Lnode Z.f_Lnode Z.d_Lnode
  m_Lnode : Z.mg "_law_node" = some (.ref Z.f_Lnode)
  b_Lnode : Binds Z.K Z.d_Lnode ["_law_state", "_law_heads_here", "_law_boxes", "_law_deep", "_law_room"] []
  F_Lsheet : Fun Z.K "_law_sheet" "_law_sheet" st_Lsheet Z.f_Lsheet Z.d_Lsheet
  m_Lsheet : Z.mg "_law_sheet" = some (.ref Z.f_Lsheet)
  b_Lsheet : Binds Z.K Z.d_Lsheet ["_law_state", "_law_most"] []
  F_Lown : Fun Z.K "_law_own" "_law_own" st_Lown Z.f_Lown Z.d_Lown
  m_Lown : Z.mg "_law_own" = some (.ref Z.f_Lown)
  b_Lown : Binds Z.K Z.d_Lown ["_law_sheet_here", "_law_at", "_law_boxes"] []
  F_Lparts : Fun Z.K "_law_parts" "_law_parts" st_Lparts Z.f_Lparts Z.d_Lparts
  m_Lparts : Z.mg "_law_parts" = some (.ref Z.f_Lparts)
  b_Lparts : Binds Z.K Z.d_Lparts ["_law_sheet_here", "_law_at"] []
  F_Lhead_wrong : Fun Z.K "_law_head_wrong" "_law_head_wrong" st_Lhead_wrong Z.f_Lhead_wrong Z.d_Lhead_wrong
  m_Lhead_wrong : Z.mg "_law_head_wrong" = some (.ref Z.f_Lhead_wrong)
  b_Lhead_wrong : Binds Z.K Z.d_Lhead_wrong ["_law_sheet_here"] []
  F_Lwrong : Fun Z.K "_law_wrong" "_law_wrong" st_Lwrong Z.f_Lwrong Z.d_Lwrong
  m_Lwrong : Z.mg "_law_wrong" = some (.ref Z.f_Lwrong)
  b_Lwrong : Binds Z.K Z.d_Lwrong ["_law_sheet_here"] []
  F_Lbent : Fun Z.K "_law_bent" "_law_bent" st_Lbent Z.f_Lbent Z.d_Lbent
  m_Lbent : Z.mg "_law_bent" = some (.ref Z.f_Lbent)
  b_Lbent : Binds Z.K Z.d_Lbent ["_law_state", "_law_sheet_here"] []
  F_Lheard : Fun Z.K "_law_heard" "_law_heard" st_Lheard Z.f_Lheard Z.d_Lheard
  m_Lheard : Z.mg "_law_heard" = some (.ref Z.f_Lheard)
  b_Lheard : Binds Z.K Z.d_Lheard ["_law_way", "_law_sheet_here"] []
  F_Ledge : Fun Z.K "_law_edge" "_law_edge" st_Ledge Z.f_Ledge Z.d_Ledge
  m_Ledge : Z.mg "_law_edge" = some (.ref Z.f_Ledge)
  b_Ledge : Binds Z.K Z.d_Ledge ["_law_state"] []
  F_law : Fun Z.K "law" "law" st_law Z.f_law Z.d_law
  m_law : Z.mg "law" = some (.ref Z.f_law)
  b_law : Binds Z.K Z.d_law ["_law_script"] []
  g_Look : Z.mg "Look" = some (.ref Z.c_Look)
  cl_Look : Cls Z.K Z.c_Look
  M_Look : Mk Z.K Z.c_Look Z.f_Look_init
  mt_Look_due : Meth Z.K Z.c_Look "due" Z.f_Look_due
  mt_Look_within : Meth Z.K Z.c_Look "within" Z.f_Look_within
  na_Look_numbers : NoAttr Z.K Z.c_Look "numbers"
  na_Look_place : NoAttr Z.K Z.c_Look "place"
  g_ChainError : Z.mg "ChainError" = some (.ref Z.c_ChainError)
  ri_ChainError : PySem.W.readsIn Z.K Z.c_ChainError (.type "type") = true
  rs_ChainError : PySem.W.specialIn Z.K (.ref Z.c_ChainError) "__getattribute__" = some (some (.builtin "type.__getattribute__"))
  rv_ChainError : PySem.W.findCls Z.K (.ref Z.c_ChainError) (.type "type") "__init__" = some (.val (.builtin "ValueError.__init__"))
  g_NoSheet : Z.mg "NoSheet" = some (.ref Z.c_NoSheet)
  ox_NoSheet : OexC Z.K Z.c_NoSheet
  xf_NoSheet : XfC Z.K Z.c_NoSheet
  oi_NoSheet : PySem.W.findIn Z.K (.ref Z.c_NoSheet) "__init__" = some (some (.ref Z.f_NoSheet_init))
  ot_NoSheet : PySem.W.typeIn Z.K (.ref Z.f_NoSheet_init) = some (.type "function")
  na_NoSheet_place : PySem.W.findIn Z.K (.ref Z.c_NoSheet) "place" = some none
  na_NoSheet_word : PySem.W.findIn Z.K (.ref Z.c_NoSheet) "word" = some none
  kx_NoSheet : ExcC Z.K Z.c_NoSheet
  kv_NoSheet : PySem.W.kitOne Z.K (.ref Z.c_NoSheet) (.type "ValueError") = some true
  ki_NoSheet_NoCode : PySem.W.kitOne Z.K (.ref Z.c_NoSheet) (.ref Z.c_NoCode) = some false
  ki_NoSheet_NoName : PySem.W.kitOne Z.K (.ref Z.c_NoSheet) (.ref Z.c_NoName) = some false
  ki_NoSheet_NoRow : PySem.W.kitOne Z.K (.ref Z.c_NoSheet) (.ref Z.c_NoRow) = some false
  ki_NoSheet_NoSheet : PySem.W.kitOne Z.K (.ref Z.c_NoSheet) (.ref Z.c_NoSheet) = some true
  ki_NoSheet_NoText : PySem.W.kitOne Z.K (.ref Z.c_NoSheet) (.ref Z.c_NoText) = some false
  ex_NoSheet_ChainError : PySem.W.exmOne Z.K (.ref Z.c_NoSheet) (.ref Z.c_ChainError) = some true
  ex_NoSheet_NoSheet : PySem.W.exmOne Z.K (.ref Z.c_NoSheet) (.ref Z.c_NoSheet) = some true
  g_NoText : Z.mg "NoText" = some (.ref Z.c_NoText)
  g_NoCode : Z.mg "NoCode" = some (.ref Z.c_NoCode)
  g_NoRow : Z.mg "NoRow" = some (.ref Z.c_NoRow)
  g_NoName : Z.mg "NoName" = some (.ref Z.c_NoName)
theorem Top.k_all {Z : Adr} (_ : Top Z) : True := trivial
theorem Top.k_NoSheet_init {Z : Adr} (T : Top Z) : PySem.W.keepIn Z.K (.ref Z.f_NoSheet_init) = true := T.F_NoSheet_init.kp
theorem Top.k_parts_of {Z : Adr} (T : Top Z) : PySem.W.keepIn Z.K (.ref Z.f_parts_of) = true := T.F_parts_of.kp
theorem Top.k_Look_init {Z : Adr} (T : Top Z) : PySem.W.keepIn Z.K (.ref Z.f_Look_init) = true := T.F_Look_init.kp
theorem Top.k_Look_due {Z : Adr} (T : Top Z) : PySem.W.keepIn Z.K (.ref Z.f_Look_due) = true := T.F_Look_due.kp
theorem Top.k_Look_within {Z : Adr} (T : Top Z) : PySem.W.keepIn Z.K (.ref Z.f_Look_within) = true := T.F_Look_within.kp
theorem Top.k_heads_in {Z : Adr} (T : Top Z) : PySem.W.keepIn Z.K (.ref Z.f_heads_in) = true := T.F_heads_in.kp
theorem Top.k_own_numbers {Z : Adr} (T : Top Z) : PySem.W.keepIn Z.K (.ref Z.f_own_numbers) = true := T.F_own_numbers.kp
theorem Top.k_node_in {Z : Adr} (T : Top Z) : PySem.W.keepIn Z.K (.ref Z.f_node_in) = true := T.F_node_in.kp
theorem Top.k_functions {Z : Adr} (T : Top Z) : PySem.W.keepIn Z.K (.ref Z.f_functions) = true := T.F_functions.kp
theorem Top.k_wrong {Z : Adr} (T : Top Z) : PySem.W.keepIn Z.K (.ref Z.f_wrong) = true := T.F_wrong.kp
theorem Top.k_nodes_in {Z : Adr} (T : Top Z) : PySem.W.keepIn Z.K (.ref Z.f_nodes_in) = true := T.F_nodes_in.kp
theorem Top.k_nodes {Z : Adr} (T : Top Z) : PySem.W.keepIn Z.K (.ref Z.f_nodes) = true := T.F_nodes.kp
theorem Top.k_Lmixed {Z : Adr} (T : Top Z) : PySem.W.keepIn Z.K (.ref Z.f_Lmixed) = true := T.F_Lmixed.kp
theorem Top.k_Ltake {Z : Adr} (T : Top Z) : PySem.W.keepIn Z.K (.ref Z.f_Ltake) = true := T.F_Ltake.kp
theorem Top.k_Lheads {Z : Adr} (T : Top Z) : PySem.W.keepIn Z.K (.ref Z.f_Lheads) = true := T.F_Lheads.kp
theorem Top.k_Lnumber {Z : Adr} (T : Top Z) : PySem.W.keepIn Z.K (.ref Z.f_Lnumber) = true := T.F_Lnumber.kp
theorem Top.k_Lleaf {Z : Adr} (T : Top Z) : PySem.W.keepIn Z.K (.ref Z.f_Lleaf) = true := T.F_Lleaf.kp
theorem Top.k_Lhead {Z : Adr} (T : Top Z) : PySem.W.keepIn Z.K (.ref Z.f_Lhead) = true := T.F_Lhead.kp
theorem Top.k_Lnode {Z : Adr} (T : Top Z) : PySem.W.keepIn Z.K (.ref Z.f_Lnode) = true := T.F_Lnode.kp
theorem Top.k_Lsheet {Z : Adr} (T : Top Z) : PySem.W.keepIn Z.K (.ref Z.f_Lsheet) = true := T.F_Lsheet.kp
theorem Top.k_Lown {Z : Adr} (T : Top Z) : PySem.W.keepIn Z.K (.ref Z.f_Lown) = true := T.F_Lown.kp
theorem Top.k_Lparts {Z : Adr} (T : Top Z) : PySem.W.keepIn Z.K (.ref Z.f_Lparts) = true := T.F_Lparts.kp
theorem Top.k_Lhead_wrong {Z : Adr} (T : Top Z) : PySem.W.keepIn Z.K (.ref Z.f_Lhead_wrong) = true := T.F_Lhead_wrong.kp
theorem Top.k_Lwrong {Z : Adr} (T : Top Z) : PySem.W.keepIn Z.K (.ref Z.f_Lwrong) = true := T.F_Lwrong.kp
theorem Top.k_Lbent {Z : Adr} (T : Top Z) : PySem.W.keepIn Z.K (.ref Z.f_Lbent) = true := T.F_Lbent.kp
theorem Top.k_Lheard {Z : Adr} (T : Top Z) : PySem.W.keepIn Z.K (.ref Z.f_Lheard) = true := T.F_Lheard.kp
theorem Top.k_Ledge {Z : Adr} (T : Top Z) : PySem.W.keepIn Z.K (.ref Z.f_Ledge) = true := T.F_Ledge.kp
theorem Top.k_law {Z : Adr} (T : Top Z) : PySem.W.keepIn Z.K (.ref Z.f_law) = true := T.F_law.kp
def fs_Look (v_numbers v_place : V) : List (Str × V) := [(("numbers" : Str), v_numbers), (("place" : Str), v_place)]
def fi_Look_1 (v_numbers : V) : List (Str × V) := [(("numbers" : Str), v_numbers)]
theorem get_Look_numbers {v_numbers v_place : V} : (fs_Look v_numbers v_place).lookup ("numbers" : Str) = some v_numbers := by unfold fs_Look; rw [lk_eq]
theorem put_Look_numbers {v_numbers v_place y : V} : putF ("numbers" : Str) y (fs_Look v_numbers v_place) = fs_Look y v_place := by unfold fs_Look; rw [pu_eq]
theorem fg_Look_numbers {Z : Adr} (T : Top Z) {H : Hp} {p dx : Addr} {v_numbers v_place : V} {Q : VK} (h1 : H p = some (.ins Z.c_Look dx (fs_Look v_numbers v_place))) (q : Q v_numbers H) : zFld Z.K (.ref p) ("numbers" : Str) H Q := s_zFld h1 T.cl_Look T.na_Look_numbers get_Look_numbers q
theorem fp_Look_numbers {Z : Adr} (T : Top Z) {H : Hp} {p dx : Addr} {v_numbers v_place y : V} {N1 : Hp → Prop} (h1 : H p = some (.ins Z.c_Look dx (fs_Look v_numbers v_place))) (h : ∀ H', But p H H' → H' p = some (.ins Z.c_Look dx (fs_Look y v_place)) → N1 H') : zPutF Z.K (.ref p) ("numbers" : Str) y H N1 := c_fld h1 T.cl_Look T.na_Look_numbers (by show 2 < 1000; decide) put_Look_numbers h
theorem fn_Look_numbers {Z : Adr} (T : Top Z) {H : Hp} {p dx : Addr} { y : V} {N1 : Hp → Prop} (h1 : H p = some (.ins Z.c_Look dx [])) (h : ∀ H', But p H H' → H' p = some (.ins Z.c_Look dx (fi_Look_1  y)) → N1 H') : zPutF Z.K (.ref p) ("numbers" : Str) y H N1 := c_fld h1 T.cl_Look T.na_Look_numbers (by show 0 < 1000; decide) (by rw [pu_nil]; rfl) h
theorem get_Look_place {v_numbers v_place : V} : (fs_Look v_numbers v_place).lookup ("place" : Str) = some v_place := by unfold fs_Look; rw [lk_ne (by decide +kernel), lk_eq]
theorem put_Look_place {v_numbers v_place y : V} : putF ("place" : Str) y (fs_Look v_numbers v_place) = fs_Look v_numbers y := by unfold fs_Look; rw [pu_ne (by decide +kernel), pu_eq]
theorem fg_Look_place {Z : Adr} (T : Top Z) {H : Hp} {p dx : Addr} {v_numbers v_place : V} {Q : VK} (h1 : H p = some (.ins Z.c_Look dx (fs_Look v_numbers v_place))) (q : Q v_place H) : zFld Z.K (.ref p) ("place" : Str) H Q := s_zFld h1 T.cl_Look T.na_Look_place get_Look_place q
theorem fp_Look_place {Z : Adr} (T : Top Z) {H : Hp} {p dx : Addr} {v_numbers v_place y : V} {N1 : Hp → Prop} (h1 : H p = some (.ins Z.c_Look dx (fs_Look v_numbers v_place))) (h : ∀ H', But p H H' → H' p = some (.ins Z.c_Look dx (fs_Look v_numbers y)) → N1 H') : zPutF Z.K (.ref p) ("place" : Str) y H N1 := c_fld h1 T.cl_Look T.na_Look_place (by show 2 < 1000; decide) put_Look_place h
theorem fn_Look_place {Z : Adr} (T : Top Z) {H : Hp} {p dx : Addr} {v_numbers y : V} {N1 : Hp → Prop} (h1 : H p = some (.ins Z.c_Look dx (fi_Look_1 v_numbers))) (h : ∀ H', But p H H' → H' p = some (.ins Z.c_Look dx (fs_Look v_numbers y)) → N1 H') : zPutF Z.K (.ref p) ("place" : Str) y H N1 := c_fld h1 T.cl_Look T.na_Look_place (by show 1 < 1000; decide) (by unfold fi_Look_1; rw [pu_ne (by decide +kernel), pu_nil]; rfl) h
theorem nx_Look_due {v_numbers v_place : V} : (fs_Look v_numbers v_place).lookup ("due" : Str) = none := by unfold fs_Look; rw [lk_ne (by decide +kernel), lk_ne (by decide +kernel)]; rfl
theorem ms_Look_due {Z : Adr} {H : Hp} {p dx : Addr} {v_numbers v_place : V} {N1 : Prop} (h1 : H p = some (.ins Z.c_Look dx (fs_Look v_numbers v_place))) (h : N1) : zSelf Z.c_Look ("due" : Str) (.ref p) H N1 := s_zself h1 nx_Look_due h
theorem nx_Look_within {v_numbers v_place : V} : (fs_Look v_numbers v_place).lookup ("within" : Str) = none := by unfold fs_Look; rw [lk_ne (by decide +kernel), lk_ne (by decide +kernel)]; rfl
theorem ms_Look_within {Z : Adr} {H : Hp} {p dx : Addr} {v_numbers v_place : V} {N1 : Prop} (h1 : H p = some (.ins Z.c_Look dx (fs_Look v_numbers v_place))) (h : N1) : zSelf Z.c_Look ("within" : Str) (.ref p) H N1 := s_zself h1 nx_Look_within h
/-! ### nodes as trees -/
inductive Nd where
  | mk (kind place : Int) (nums : List Int) (parts : List Nd)
def Nd.kind : Nd → Int
  | .mk k _ _ _ => k
def Nd.place : Nd → Int
  | .mk _ p _ _ => p
def Nd.nums : Nd → List Int
  | .mk _ _ ns _ => ns
def Nd.parts : Nd → List Nd
  | .mk _ _ _ ps => ps
mutual
/-- a node as it lies: tuples all through -/
def NodeAt (H : Hp) : Nd → V → Prop
  | .mk k p ns ps, v => ∃ (t tn tp : Addr) (vs : List V), v = .ref t ∧ H t = some (.tup [.int k, .int p, .ref tn, .ref tp]) ∧ H tn = some (.tup (ns.map V.int)) ∧ H tp = some (.tup vs) ∧ NodesAt H ps vs
def NodesAt (H : Hp) : List Nd → List V → Prop
  | [], vs => vs = []
  | n :: ns, vs => ∃ v r, vs = v :: r ∧ NodeAt H n v ∧ NodesAt H ns r
end
mutual
theorem NodeAt.mono {H H' : Hp} (S : TupS H H') : ∀ {n : Nd} {v : V}, NodeAt H n v → NodeAt H' n v
  | .mk _ _ _ _, _, ⟨t, tn, tp, vs, e, h1, h2, h3, h4⟩ => ⟨t, tn, tp, vs, e, S _ _ h1, S _ _ h2, S _ _ h3, NodesAt.mono S h4⟩
theorem NodesAt.mono {H H' : Hp} (S : TupS H H') : ∀ {ns : List Nd} {vs : List V}, NodesAt H ns vs → NodesAt H' ns vs
  | [], _, h => h
  | _ :: _, _, ⟨v, r, e, h1, h2⟩ => ⟨v, r, e, NodeAt.mono S h1, NodesAt.mono S h2⟩
end
theorem NodesAt.len {H : Hp} : ∀ {ns : List Nd} {vs : List V}, NodesAt H ns vs → vs.length = ns.length
  | [], _, h => by rw [show _ = [] from h]; rfl
  | _ :: _, _, ⟨v, r, e, _, h2⟩ => by rw [e, List.length_cons, List.length_cons, NodesAt.len h2]
theorem NodesAt.get {H : Hp} : ∀ {ns : List Nd} {vs : List V} {i : Nat} {v : V}, NodesAt H ns vs → vs[i]? = some v → ∃ n, ns[i]? = some n ∧ NodeAt H n v
  | [], _, _, _, h, e => by rw [show _ = [] from h] at e; simp at e
  | n :: _, _, 0, _, ⟨v, r, e0, h1, h2⟩, e => by rw [e0] at e; cases e; exact ⟨n, rfl, h1⟩
  | _ :: ns, _, i + 1, _, ⟨v, r, e0, h1, h2⟩, e => by
    rw [e0] at e
    obtain ⟨n, en, hn⟩ := NodesAt.get (ns := ns) (i := i) h2 (by simpa using e)
    exact ⟨n, by simpa using en, hn⟩
theorem NodesAt.app {H : Hp} : ∀ {ns : List Nd} {vs : List V} {n : Nd} {v : V}, NodesAt H ns vs → NodeAt H n v → NodesAt H (ns ++ [n]) (vs ++ [v])
  | [], _, n, v, h, hn => by rw [show _ = [] from h]; exact ⟨v, [], rfl, hn, rfl⟩
  | _ :: _, _, n, v, ⟨w, r, e, h1, h2⟩, hn => by rw [e]; exact ⟨w, r ++ [v], rfl, h1, NodesAt.app h2 hn⟩

/-! ### how a sheet is read -/
abbrev Rz (α : Type) := Except (Int × Str) α
def bindR {α β : Type} (x : Rz α) (f : α → Rz β) : Rz β := match x with
  | .ok a => f a
  | .error e => .error e
theorem bindR_ok {α β : Type} {x : Rz α} {f : α → Rz β} {b : β} (h : bindR x f = .ok b) : ∃ a, x = .ok a ∧ f a = .ok b := by
  cases x with
  | ok a => exact ⟨a, rfl, h⟩
  | error e => cases h
theorem bindR_of {α β : Type} {x : Rz α} {f : α → Rz β} {a : α} (h : x = .ok a) : bindR x f = f a := by rw [h]; rfl
def dueP (xs : List Int) (k : Nat) : Rz Int := match xs[k]? with
  | none => .error (k, "end")
  | some v => .ok v
def withinP (xs : List Int) (k : Nat) (lo hi : Int) : Rz Int := bindR (dueP xs k) fun v => if lo ≤ v ∧ v ≤ hi then .ok v else .error (k, "range")
theorem dueP_ok {xs : List Int} {k : Nat} {v : Int} (h : dueP xs k = .ok v) : xs[k]? = some v := by
  unfold dueP at h
  split at h
  · cases h
  · cases h; assumption
theorem dueP_of {xs : List Int} {k : Nat} {v : Int} (h : xs[k]? = some v) : dueP xs k = .ok v := by unfold dueP; rw [h]
theorem withinP_ok {xs : List Int} {k : Nat} {lo hi v : Int} (h : withinP xs k lo hi = .ok v) : xs[k]? = some v ∧ lo ≤ v ∧ v ≤ hi := by
  obtain ⟨a, h1, h2⟩ := bindR_ok h
  split at h2
  · cases h2; exact ⟨dueP_ok h1, by assumption⟩
  · cases h2
theorem withinP_of {xs : List Int} {k : Nat} {lo hi v : Int} (h : xs[k]? = some v) (h1 : lo ≤ v) (h2 : v ≤ hi) : withinP xs k lo hi = .ok v := by
  unfold withinP
  rw [bindR_of (dueP_of h), if_pos ⟨h1, h2⟩]
def manyP (i : Int) : Int := if i = 19 then 0 else if i = 7 ∨ i = 18 then 1 else if i = 17 then 3 else 2
/-- a node's own numbers, how many parts it has, the place behind -/
def ownP (xs : List Int) (hs : List (Int × Int)) (bx kind : Int) (k : Nat) : Rz (List Int × Int × Nat) :=
  if kind = 0 then bindR (dueP xs k) fun v => .ok ([v], 0, k + 1)
  else if kind = 1 then bindR (withinP xs k 0 (bx - 1)) fun v => .ok ([v], 0, k + 1)
  else if kind = 2 then bindR (withinP xs k 0 (bx - 1)) fun v => .ok ([v], 1, k + 1)
  else if kind = 3 then bindR (withinP xs k 1 12) fun v => .ok ([v], v, k + 1)
  else if kind = 4 then bindR (withinP xs k 2 12) fun v => .ok ([v], v + 1, k + 1)
  else if kind = 6 then bindR (withinP xs k 0 (hs.length - 1)) fun v => .ok ([v], (hs.getD v.toNat (0, 0)).1, k + 1)
  else if kind = 5 then .ok ([], 2, k)
  else .ok ([], manyP kind, k)
def partsP (f : Nat → Rz (Nd × Nat)) : Nat → Nat → Rz (List Nd × Nat)
  | 0, k => .ok ([], k)
  | m + 1, k => bindR (partsP f m k) fun a => bindR (f a.2) fun b => .ok (a.1 ++ [b.1], b.2)
theorem partsP_pre {f : Nat → Rz (Nd × Nat)} {k : Nat} {i : Nat} : ∀ {m : Nat} {r : List Nd × Nat}, partsP f m k = .ok r → i ≤ m → ∃ r', partsP f i k = .ok r'
  | 0, r, h, hi => by
    cases Nat.le_zero.mp hi
    exact ⟨r, h⟩
  | m + 1, r, h, hi => by
    by_cases e : i = m + 1
    · subst e; exact ⟨r, h⟩
    · obtain ⟨a, h1, _⟩ := bindR_ok h
      exact partsP_pre h1 (by omega)
theorem partsP_step {f : Nat → Rz (Nd × Nat)} {k i : Nat} {r r' : List Nd × Nat} (h : partsP f (i + 1) k = .ok r) (h' : partsP f i k = .ok r') : ∃ b, f r'.2 = .ok b ∧ r = (r'.1 ++ [b.1], b.2) := by
  obtain ⟨a, h1, h2⟩ := bindR_ok h
  rw [h'] at h1
  cases h1
  obtain ⟨b, h3, h4⟩ := bindR_ok h2
  cases h4
  exact ⟨b, h3, rfl⟩
theorem partsP_len {f : Nat → Rz (Nd × Nat)} {k : Nat} : ∀ {m : Nat} {r : List Nd × Nat}, partsP f m k = .ok r → r.1.length = m
  | 0, r, h => by cases h; rfl
  | m + 1, r, h => by
    obtain ⟨a, h1, h2⟩ := bindR_ok h
    obtain ⟨b, h3, h4⟩ := bindR_ok h2
    cases h4
    rw [List.length_append, partsP_len h1]
    rfl
/-- a node: fuel is 11 - deep -/
def nodeP (xs : List Int) (hs : List (Int × Int)) (bx : Int) : Nat → Nat → Rz (Nd × Nat)
  | 0, k => .error (k, "deep")
  | f + 1, k => bindR (withinP xs k 0 19) fun kind => bindR (ownP xs hs bx kind (k + 1)) fun o => bindR (partsP (nodeP xs hs bx f) o.2.1.toNat o.2.2) fun p => .ok (.mk kind k o.1 p.1, p.2)
theorem nodeP_ok {xs : List Int} {hs : List (Int × Int)} {bx : Int} {f k : Nat} {r : Nd × Nat} (h : nodeP xs hs bx (f + 1) k = .ok r) : ∃ kind o p, xs[k]? = some kind ∧ 0 ≤ kind ∧ kind ≤ 19 ∧ ownP xs hs bx kind (k + 1) = .ok o ∧
    partsP (nodeP xs hs bx f) o.2.1.toNat o.2.2 = .ok p ∧ r = (.mk kind k o.1 p.1, p.2) := by
  unfold nodeP at h
  obtain ⟨kind, h1, h2⟩ := bindR_ok h
  obtain ⟨o, h3, h4⟩ := bindR_ok h2
  obtain ⟨p, h5, h6⟩ := bindR_ok h4
  cases h6
  obtain ⟨a, b, c⟩ := withinP_ok h1
  exact ⟨kind, o, p, a, b, c, h3, h5, rfl⟩
def headsL (xs : List Int) : Nat → Rz (List (Int × Int))
  | 0 => .ok []
  | i + 1 => bindR (headsL xs i) fun hs => bindR (withinP xs (1 + 2 * i) 0 (if 0 < i then 4 else 0)) fun p => bindR (withinP xs (2 + 2 * i) p 12) fun b => .ok (hs ++ [(p, b)])
def headsP (xs : List Int) : Rz (List (Int × Int)) := bindR (withinP xs 0 1 16) fun n => headsL xs n.toNat
theorem headsL_pre {xs : List Int} {i : Nat} : ∀ {m : Nat} {r : List (Int × Int)}, headsL xs m = .ok r → i ≤ m → ∃ r', headsL xs i = .ok r'
  | 0, r, h, hi => by
    cases Nat.le_zero.mp hi
    exact ⟨r, h⟩
  | m + 1, r, h, hi => by
    by_cases e : i = m + 1
    · subst e; exact ⟨r, h⟩
    · obtain ⟨a, h1, _⟩ := bindR_ok h
      exact headsL_pre h1 (by omega)
theorem headsL_step {xs : List Int} {i : Nat} {r r' : List (Int × Int)} (h : headsL xs (i + 1) = .ok r) (h' : headsL xs i = .ok r') : ∃ p b, withinP xs (1 + 2 * i) 0 (if 0 < i then 4 else 0) = .ok p ∧ withinP xs (2 + 2 * i) p 12 = .ok b ∧ r = r' ++ [(p, b)] := by
  obtain ⟨a, h1, h2⟩ := bindR_ok h
  rw [h'] at h1
  cases h1
  obtain ⟨p, h3, h4⟩ := bindR_ok h2
  obtain ⟨b, h5, h6⟩ := bindR_ok h4
  cases h6
  exact ⟨p, b, h3, h5, rfl⟩
theorem headsL_len {xs : List Int} : ∀ {m : Nat} {r : List (Int × Int)}, headsL xs m = .ok r → r.length = m
  | 0, r, h => by cases h; rfl
  | m + 1, r, h => by
    obtain ⟨a, h1, h2⟩ := bindR_ok h
    obtain ⟨p, h3, h4⟩ := bindR_ok h2
    obtain ⟨b, h5, h6⟩ := bindR_ok h4
    cases h6
    rw [List.length_append, headsL_len h1]
    rfl
theorem headsP_ok {xs : List Int} {hs : List (Int × Int)} (h : headsP xs = .ok hs) : 1 ≤ hs.length ∧ hs.length ≤ 16 ∧ xs[0]? = some (hs.length : Int) ∧ headsL xs hs.length = .ok hs := by
  obtain ⟨n, h1, h2⟩ := bindR_ok h
  obtain ⟨a, b, c⟩ := withinP_ok h1
  have e := headsL_len h2
  have e2 : n = (hs.length : Int) := by rw [e]; omega
  refine ⟨by omega, by omega, by rw [← e2]; exact a, by rw [e]; exact h2⟩
def bodiesP (xs : List Int) (hs : List (Int × Int)) : Nat → Nat → Rz (List Nd × Nat)
  | 0, k => .ok ([], k)
  | i + 1, k => bindR (bodiesP xs hs i k) fun a => bindR (nodeP xs hs (hs.getD i (0, 0)).2 10 a.2) fun b => .ok (a.1 ++ [b.1], b.2)
theorem bodiesP_pre {xs : List Int} {hs : List (Int × Int)} {k i : Nat} : ∀ {m : Nat} {r : List Nd × Nat}, bodiesP xs hs m k = .ok r → i ≤ m → ∃ r', bodiesP xs hs i k = .ok r'
  | 0, r, h, hi => by
    cases Nat.le_zero.mp hi
    exact ⟨r, h⟩
  | m + 1, r, h, hi => by
    by_cases e : i = m + 1
    · subst e; exact ⟨r, h⟩
    · obtain ⟨a, h1, _⟩ := bindR_ok h
      exact bodiesP_pre h1 (by omega)
theorem bodiesP_step {xs : List Int} {hs : List (Int × Int)} {k i : Nat} {r r' : List Nd × Nat} (h : bodiesP xs hs (i + 1) k = .ok r) (h' : bodiesP xs hs i k = .ok r') : ∃ b, nodeP xs hs (hs.getD i (0, 0)).2 10 r'.2 = .ok b ∧ r = (r'.1 ++ [b.1], b.2) := by
  obtain ⟨a, h1, h2⟩ := bindR_ok h
  rw [h'] at h1
  cases h1
  obtain ⟨b, h3, h4⟩ := bindR_ok h2
  cases h4
  exact ⟨b, h3, rfl⟩
theorem bodiesP_len {xs : List Int} {hs : List (Int × Int)} {k : Nat} : ∀ {m : Nat} {r : List Nd × Nat}, bodiesP xs hs m k = .ok r → r.1.length = m
  | 0, r, h => by cases h; rfl
  | m + 1, r, h => by
    obtain ⟨a, h1, h2⟩ := bindR_ok h
    obtain ⟨b, h3, h4⟩ := bindR_ok h2
    cases h4
    rw [List.length_append, bodiesP_len h1]
    rfl
/-- the functions of a sheet: heads and bodies -/
def funsP (xs : List Int) : Rz (List (Int × Int) × List Nd) := bindR (headsP xs) fun hs => bindR (bodiesP xs hs hs.length (1 + 2 * hs.length)) fun a => if a.2 < xs.length then .error (a.2, "over") else .ok (hs, a.1)
theorem funsP_ok {xs : List Int} {hs : List (Int × Int)} {bs : List Nd} (h : funsP xs = .ok (hs, bs)) : ∃ k, headsP xs = .ok hs ∧ bodiesP xs hs hs.length (1 + 2 * hs.length) = .ok (bs, k) ∧ ¬ k < xs.length := by
  obtain ⟨a, h1, h2⟩ := bindR_ok h
  obtain ⟨b, h3, h4⟩ := bindR_ok h2
  split at h4
  · cases h4
  · rename_i c
    cases h4
    exact ⟨b.2, h1, h3, c⟩
theorem headsL_all {xs : List Int} : ∀ {m : Nat} {r : List (Int × Int)}, headsL xs m = .ok r → ∀ h ∈ r, 0 ≤ h.1 ∧ h.1 ≤ 4 ∧ h.1 ≤ h.2 ∧ h.2 ≤ 12
  | 0, r, h => by cases h; intro x hx; cases hx
  | m + 1, r, h => by
    obtain ⟨a, h1, h2⟩ := bindR_ok h
    obtain ⟨p, h3, h4⟩ := bindR_ok h2
    obtain ⟨b, h5, h6⟩ := bindR_ok h4
    cases h6
    intro x hx
    rcases List.mem_append.mp hx with z | z
    · exact headsL_all h1 x z
    · rw [List.mem_singleton.mp z]
      have a1 := (withinP_ok h3).2
      have a2 := (withinP_ok h5).2
      refine ⟨a1.1, ?_, a2.1, a2.2⟩
      have := a1.2
      split at this <;> omega
theorem ownP_most {xs : List Int} {hs : List (Int × Int)} {bx kind : Int} {k : Nat} {o : List Int × Int × Nat} (hB : ∀ h ∈ hs, 0 ≤ h.1 ∧ h.1 ≤ 12) (eo : ownP xs hs bx kind k = .ok o) : 0 ≤ o.2.1 ∧ o.2.1 ≤ 13 := by
  unfold ownP at eo
  split at eo
  · obtain ⟨v, g1, g2⟩ := bindR_ok eo; cases g2; exact ⟨by show (0 : Int) ≤ 0; omega, by show (0 : Int) ≤ 13; omega⟩
  split at eo
  · obtain ⟨v, g1, g2⟩ := bindR_ok eo; cases g2; exact ⟨by show (0 : Int) ≤ 0; omega, by show (0 : Int) ≤ 13; omega⟩
  split at eo
  · obtain ⟨v, g1, g2⟩ := bindR_ok eo; cases g2; exact ⟨by show (0 : Int) ≤ 1; omega, by show (1 : Int) ≤ 13; omega⟩
  split at eo
  · obtain ⟨v, g1, g2⟩ := bindR_ok eo
    have w := (withinP_ok g1).2
    cases g2; exact ⟨by show (0 : Int) ≤ v; omega, by show v ≤ 13; omega⟩
  split at eo
  · obtain ⟨v, g1, g2⟩ := bindR_ok eo
    have w := (withinP_ok g1).2
    cases g2; exact ⟨by show (0 : Int) ≤ v + 1; omega, by show v + 1 ≤ 13; omega⟩
  split at eo
  · obtain ⟨v, g1, g2⟩ := bindR_ok eo
    have w := (withinP_ok g1).2
    cases g2
    have hv : v.toNat < hs.length := by omega
    have := hB _ (List.getElem_mem hv)
    have e : (hs.getD v.toNat (0, 0)).1 = hs[v.toNat].1 := by rw [List.getD_eq_getElem?_getD, List.getElem?_eq_getElem hv]; rfl
    show 0 ≤ (hs.getD v.toNat (0, 0)).1 ∧ (hs.getD v.toNat (0, 0)).1 ≤ 13
    rw [e]
    omega
  split at eo
  · cases eo; exact ⟨by show (0 : Int) ≤ 2; omega, by show (2 : Int) ≤ 13; omega⟩
  · cases eo
    show 0 ≤ manyP kind ∧ manyP kind ≤ 13
    unfold manyP
    repeat' split
    all_goals omega
/-! ### how places go on -/
theorem ownP_le {xs : List Int} {hs : List (Int × Int)} {bx kind : Int} {k : Nat} {o : List Int × Int × Nat} (h : ownP xs hs bx kind k = .ok o) : o.2.2 = k + o.1.length ∧ o.2.2 ≤ max k xs.length := by
  have due : ∀ {v : Int}, dueP xs k = .ok v → k + 1 ≤ xs.length := fun h => (List.getElem?_eq_some_iff.mp (dueP_ok h)).1
  have wit : ∀ {a b v : Int}, withinP xs k a b = .ok v → k + 1 ≤ xs.length := fun h => (List.getElem?_eq_some_iff.mp (withinP_ok h).1).1
  unfold ownP at h
  repeat' split at h
  all_goals first
    | (obtain ⟨v, h1, h2⟩ := bindR_ok h; cases h2; first | exact ⟨rfl, Nat.le_trans (due h1) (Nat.le_max_right _ _)⟩ | exact ⟨rfl, Nat.le_trans (wit h1) (Nat.le_max_right _ _)⟩)
    | (cases h; exact ⟨rfl, Nat.le_max_left _ _⟩)
theorem partsP_le {xs : List Int} {f : Nat → Rz (Nd × Nat)} (hf : ∀ k r, f k = .ok r → k < r.2 ∧ r.2 ≤ xs.length) {k : Nat} : ∀ {m : Nat} {r : List Nd × Nat}, partsP f m k = .ok r → k ≤ r.2 ∧ (k ≤ xs.length → r.2 ≤ xs.length)
  | 0, r, h => by cases h; exact ⟨Nat.le_refl _, fun z => z⟩
  | m + 1, r, h => by
    obtain ⟨a, h1, h2⟩ := bindR_ok h
    obtain ⟨b, h3, h4⟩ := bindR_ok h2
    cases h4
    have x := partsP_le hf h1
    have y := hf _ _ h3
    exact ⟨by show k ≤ b.2; omega, fun _ => y.2⟩
theorem nodeP_le {xs : List Int} {hs : List (Int × Int)} {bx : Int} : ∀ {f k : Nat} {r : Nd × Nat}, nodeP xs hs bx f k = .ok r → k < r.2 ∧ r.2 ≤ xs.length
  | 0, k, r, h => by unfold nodeP at h; cases h
  | f + 1, k, r, h => by
    obtain ⟨kind, o, p, h1, h2, h3, h4, h5, rfl⟩ := nodeP_ok h
    have x := ownP_le h4
    have y := partsP_le (xs := xs) (fun k r => nodeP_le (f := f) (k := k) (r := r)) h5
    have z := (List.getElem?_eq_some_iff.mp h1).1
    show k < p.2 ∧ p.2 ≤ xs.length
    have := y.2 (by omega)
    omega
theorem bodiesP_le {xs : List Int} {hs : List (Int × Int)} {k : Nat} : ∀ {m : Nat} {r : List Nd × Nat}, bodiesP xs hs m k = .ok r → k ≤ r.2 ∧ (k ≤ xs.length → r.2 ≤ xs.length)
  | 0, r, h => by cases h; exact ⟨Nat.le_refl _, fun z => z⟩
  | m + 1, r, h => by
    obtain ⟨a, h1, h2⟩ := bindR_ok h
    obtain ⟨b, h3, h4⟩ := bindR_ok h2
    cases h4
    have x := bodiesP_le h1
    have y := nodeP_le h3
    exact ⟨by show k ≤ b.2; omega, fun _ => y.2⟩
theorem funsP_len {xs : List Int} {hs : List (Int × Int)} {bs : List Nd} {k : Nat} (h1 : headsP xs = .ok hs) (h2 : bodiesP xs hs hs.length (1 + 2 * hs.length) = .ok (bs, k)) : k ≤ xs.length := by
  obtain ⟨n1, n2, e0, eL⟩ := headsP_ok h1
  obtain ⟨i, hi⟩ : ∃ i, hs.length = i + 1 := ⟨hs.length - 1, by omega⟩
  rw [hi] at h2
  obtain ⟨r', h'⟩ := bodiesP_pre h2 (i := i) (by omega)
  obtain ⟨b, h3, e⟩ := bodiesP_step h2 h'
  cases e
  exact (nodeP_le h3).2
/-- how deep a node is -/
theorem nodeP_dep {xs : List Int} {hs : List (Int × Int)} {bx : Int} : ∀ {f k : Nat} {r : Nd × Nat}, nodeP xs hs bx f k = .ok r → 1 ≤ f
  | 0, k, r, h => by unfold nodeP at h; cases h
  | f + 1, _, _, _ => by omega
theorem ownP_cut {xs : List Int} {hs : List (Int × Int)} {bx kind : Int} {k : Nat} {o : List Int × Int × Nat} (h : ownP xs hs bx kind k = .ok o) : (xs.drop k).take o.1.length = o.1 ∧ o.1.length ≤ 1 := by
  have due : ∀ {v : Int}, xs[k]? = some v → (xs.drop k).take 1 = [v] := fun h => by
    have hk := (List.getElem?_eq_some_iff.mp h)
    rw [List.drop_eq_getElem_cons hk.1, hk.2]; rfl
  unfold ownP at h
  repeat' split at h
  all_goals first
    | (obtain ⟨v, h1, h2⟩ := bindR_ok h; cases h2; first | exact ⟨due (dueP_ok h1), Nat.le_refl _⟩ | exact ⟨due (withinP_ok h1).1, Nat.le_refl _⟩)
    | (cases h; exact ⟨rfl, Nat.zero_le _⟩)
/-- where a head stands -/
theorem heads_at {xs : List Int} : ∀ {m : Nat} {r : List (Int × Int)} {i : Nat} {h : Int × Int}, headsL xs m = .ok r → r[i]? = some h → xs[1 + 2 * i]? = some h.1 ∧ xs[2 + 2 * i]? = some h.2
  | 0, r, _, _, e, hi => by cases e; simp at hi
  | m + 1, r, i, h, e, hi => by
    obtain ⟨a, h1⟩ := headsL_pre e (i := m) (by omega)
    obtain ⟨p, b, h3, h4, rfl⟩ := headsL_step e h1
    have len := headsL_len h1
    by_cases c : i < m
    · rw [List.getElem?_append_left (by omega)] at hi
      exact heads_at h1 hi
    · rw [List.getElem?_append_right (by omega)] at hi
      have : i - a.length = 0 := by
        have := (List.getElem?_eq_some_iff.mp hi).1
        simp at this
        omega
      rw [this] at hi
      cases hi
      have : i = m := by omega
      subst this
      exact ⟨(withinP_ok h3).1, (withinP_ok h4).1⟩
/-! ### in the heap -/
structure LookAt (Z : Adr) (H : Hp) (p dx l : Addr) (xs : List Int) (k : Nat) : Prop where
  o : H p = some (.ins Z.c_Look dx (fs_Look (.ref l) (.int k)))
  n : H l = some (.lst (xs.map V.int))
theorem LookAt.ne {Z : Adr} {H : Hp} {p dx l : Addr} {xs : List Int} {k : Nat} (h : LookAt Z H p dx l xs k) : l ≠ p := ne_of h.n h.o (by intro z; cases z)
theorem LookAt.go {Z : Adr} {H H' : Hp} {p dx l : Addr} {xs : List Int} {k j : Nat} (h : LookAt Z H p dx l xs k) (B : But p H H') (o : H' p = some (.ins Z.c_Look dx (fs_Look (.ref l) (.int j)))) : LookAt Z H' p dx l xs j := ⟨o, B.rd h.ne h.n⟩
theorem LookAt.same {Z : Adr} {H H' : Hp} {p dx l : Addr} {xs : List Int} {k : Nat} (h : LookAt Z H p dx l xs k) (S : Same H H') : LookAt Z H' p dx l xs k := ⟨S _ _ h.o, S _ _ h.n⟩
theorem LookAt.new {Z : Adr} {H : Hp} {p dx l q : Addr} {o : HO} {xs : List Int} {k : Nat} (h : LookAt Z H p dx l xs k) (hq : H q = none) : LookAt Z (upd H q o) p dx l xs k := h.same (same_new hq)
theorem LookAt.own {Z : Adr} {H H' : Hp} {p dx l q : Addr} {xs : List Int} {k : Nat} (h : LookAt Z H p dx l xs k) (B : But q H H') (n1 : p ≠ q) (n2 : l ≠ q) : LookAt Z H' p dx l xs k := ⟨B.rd n1 h.o, B.rd n2 h.n⟩
theorem LookAt.tups {Z : Adr} {H H' : Hp} {p dx l : Addr} {xs : List Int} {k : Nat} (h : LookAt Z H p dx l xs k) (B : But p H H') : TupS H H' := TupS.but B h.o fun ys e => by cases e
theorem LookAt.lst {Z : Adr} {H : Hp} {p dx l q : Addr} {xs : List Int} {ys : List V} {k : Nat} (h : LookAt Z H p dx l xs k) (hq : H q = some (.lst ys)) : q ≠ p := ne_of hq h.o (by intro z; cases z)
/-- pairs as they lie -/
def PairsAt (H : Hp) : List (Int × Int) → List V → Prop
  | [], vs => vs = []
  | h :: hs, vs => ∃ t r, vs = .ref t :: r ∧ H t = some (.tup [.int h.1, .int h.2]) ∧ PairsAt H hs r
theorem PairsAt.mono {H H' : Hp} (S : TupS H H') : ∀ {hs : List (Int × Int)} {vs : List V}, PairsAt H hs vs → PairsAt H' hs vs
  | [], _, h => h
  | _ :: _, _, ⟨t, r, e, h1, h2⟩ => ⟨t, r, e, S _ _ h1, PairsAt.mono S h2⟩
theorem PairsAt.len {H : Hp} : ∀ {hs : List (Int × Int)} {vs : List V}, PairsAt H hs vs → vs.length = hs.length
  | [], _, h => by rw [show _ = [] from h]; rfl
  | _ :: _, _, ⟨t, r, e, _, h2⟩ => by rw [e, List.length_cons, List.length_cons, PairsAt.len h2]
theorem PairsAt.get {H : Hp} : ∀ {hs : List (Int × Int)} {vs : List V} {i : Nat} {h : Int × Int}, PairsAt H hs vs → hs[i]? = some h → ∃ t, vs[i]? = some (.ref t) ∧ H t = some (.tup [.int h.1, .int h.2])
  | [], _, _, _, _, e => by simp at e
  | _ :: _, _, 0, _, ⟨t, r, e0, h1, _⟩, e => by cases e; exact ⟨t, by rw [e0]; rfl, h1⟩
  | _ :: hs, _, i + 1, h, ⟨t, r, e0, _, h2⟩, e => by
    obtain ⟨t', a, b⟩ := PairsAt.get (hs := hs) (i := i) h2 (by simpa using e)
    exact ⟨t', by rw [e0]; simpa using a, b⟩
theorem PairsAt.app {H : Hp} : ∀ {hs : List (Int × Int)} {vs : List V} {h : Int × Int} {t : Addr}, PairsAt H hs vs → H t = some (.tup [.int h.1, .int h.2]) → PairsAt H (hs ++ [h]) (vs ++ [.ref t])
  | [], _, h, t, e, ht => by rw [show _ = [] from e]; exact ⟨t, [], rfl, ht, rfl⟩
  | _ :: _, _, h, t, ⟨u, r, e, h1, h2⟩, ht => by rw [e]; exact ⟨u, r ++ [.ref t], rfl, h1, PairsAt.app h2 ht⟩
/-- functions as they lie -/
def FunsAt (H : Hp) : List (Int × Int) → List Nd → List V → Prop
  | [], [], vs => vs = []
  | h :: hs, b :: bs, vs => ∃ t vb r, vs = .ref t :: r ∧ H t = some (.tup [.int h.1, .int h.2, vb]) ∧ NodeAt H b vb ∧ FunsAt H hs bs r
  | _, _, _ => False
theorem FunsAt.mono {H H' : Hp} (S : TupS H H') : ∀ {hs : List (Int × Int)} {bs : List Nd} {vs : List V}, FunsAt H hs bs vs → FunsAt H' hs bs vs
  | [], [], _, h => h
  | _ :: _, _ :: _, _, ⟨t, vb, r, e, h1, h2, h3⟩ => ⟨t, vb, r, e, S _ _ h1, h2.mono S, FunsAt.mono S h3⟩
theorem FunsAt.len {H : Hp} : ∀ {hs : List (Int × Int)} {bs : List Nd} {vs : List V}, FunsAt H hs bs vs → vs.length = hs.length ∧ bs.length = hs.length
  | [], [], _, h => by rw [show _ = [] from h]; exact ⟨rfl, rfl⟩
  | _ :: _, _ :: _, _, ⟨t, vb, r, e, _, _, h3⟩ => by rw [e, List.length_cons, List.length_cons, List.length_cons, (FunsAt.len h3).1, (FunsAt.len h3).2]; exact ⟨rfl, rfl⟩
theorem FunsAt.get {H : Hp} : ∀ {hs : List (Int × Int)} {bs : List Nd} {vs : List V} {i : Nat} {v : V}, FunsAt H hs bs vs → vs[i]? = some v → ∃ t vb h b, v = .ref t ∧ hs[i]? = some h ∧ bs[i]? = some b ∧ H t = some (.tup [.int h.1, .int h.2, vb]) ∧ NodeAt H b vb
  | [], [], _, _, _, h, e => by rw [show _ = [] from h] at e; simp at e
  | h :: _, b :: _, _, 0, _, ⟨t, vb, r, e0, h1, h2, _⟩, e => by rw [e0] at e; cases e; exact ⟨t, vb, h, b, rfl, rfl, rfl, h1, h2⟩
  | _ :: hs, _ :: bs, _, i + 1, _, ⟨t, vb, r, e0, _, _, h3⟩, e => by
    rw [e0] at e
    obtain ⟨t', vb', h', b', a1, a2, a3, a4⟩ := FunsAt.get (hs := hs) (bs := bs) (i := i) h3 (by simpa using e)
    exact ⟨t', vb', h', b', a1, by simpa using a2, by simpa using a3, a4⟩
theorem FunsAt.app {H : Hp} : ∀ {hs : List (Int × Int)} {bs : List Nd} {vs : List V} {h : Int × Int} {b : Nd} {t : Addr} {vb : V}, FunsAt H hs bs vs → H t = some (.tup [.int h.1, .int h.2, vb]) → NodeAt H b vb → FunsAt H (hs ++ [h]) (bs ++ [b]) (vs ++ [.ref t])
  | [], [], _, h, b, t, vb, e, ht, hb => by rw [show _ = [] from e]; exact ⟨t, vb, [], rfl, ht, hb, rfl⟩
  | _ :: _, _ :: _, _, h, b, t, vb, ⟨u, vu, r, e, h1, h2, h3⟩, ht, hb => by rw [e]; exact ⟨u, vu, r ++ [.ref t], rfl, h1, h2, FunsAt.app h3 ht hb⟩

/-! ### the promises, whatever the list is -/
theorem bindR_err {α β : Type} {x : Rz α} {f : α → Rz β} {e : Int × Str} (h : bindR x f = .error e) : x = .error e ∨ ∃ a, x = .ok a ∧ f a = .error e := by
  cases x with
  | ok a => exact .inr ⟨a, rfl, h⟩
  | error e' => cases h; exact .inl rfl
theorem bindR_of_err {α β : Type} {x : Rz α} {f : α → Rz β} {e : Int × Str} (h : x = .error e) : bindR x f = .error e := by rw [h]; rfl
theorem dueP_err {xs : List Int} {k : Nat} {e : Int × Str} (h : dueP xs k = .error e) : e = ((k : Int), ("end" : Str)) ∧ xs.length ≤ k := by
  unfold dueP at h
  split at h
  · rename_i z
    cases h
    exact ⟨rfl, List.getElem?_eq_none_iff.mp z⟩
  · cases h
theorem partsP_err {f : Nat → Rz (Nd × Nat)} {k i : Nat} {e : Int × Str} (h : partsP f i k = .error e) : ∀ {m : Nat}, i ≤ m → partsP f m k = .error e
  | 0, hm => by cases Nat.le_zero.mp hm; exact h
  | m + 1, hm => by
    by_cases c : i = m + 1
    · subst c; exact h
    · exact bindR_of_err (partsP_err h (by omega))
theorem headsL_err {xs : List Int} {i : Nat} {e : Int × Str} (h : headsL xs i = .error e) : ∀ {m : Nat}, i ≤ m → headsL xs m = .error e
  | 0, hm => by cases Nat.le_zero.mp hm; exact h
  | m + 1, hm => by
    by_cases c : i = m + 1
    · subst c; exact h
    · exact bindR_of_err (headsL_err h (by omega))
theorem bodiesP_err {xs : List Int} {hs : List (Int × Int)} {k i : Nat} {e : Int × Str} (h : bodiesP xs hs i k = .error e) : ∀ {m : Nat}, i ≤ m → bodiesP xs hs m k = .error e
  | 0, hm => by cases Nat.le_zero.mp hm; exact h
  | m + 1, hm => by
    by_cases c : i = m + 1
    · subst c; exact h
    · exact bindR_of_err (bodiesP_err h (by omega))
def XdAt (H : Hp) (d : Addr) (er : Int × Str) : Prop := H d = some (.xd [("word", .str er.2), ("place", .int er.1)])
def ErrS (Z : Adr) (p : Addr) (H : Hp) (er : Int × Str) (E : XK) : Prop := ∀ d H', But p H H' → XdAt H' d er → E (.ref Z.c_NoSheet) (some d) H'
theorem ErrS.trans {Z : Adr} {p : Addr} {H H' : Hp} {er : Int × Str} {E : XK} (h : ErrS Z p H er E) (B : But p H H') : ErrS Z p H' er E := fun d H2 B2 x => h d H2 (B.trans B2) x
def q_NoSheet_init (Z : Adr) (s a b : V) (H : Hp) (Q : VK) (E : XK) : Prop := ∃ p, s = .ref p ∧ H p = some (exo p Z.c_NoSheet none) ∧ ∀ d, H d = none → d ≠ p →
  Q .non (upd (upd (upd H d (exd d [("place", a)])) p (exo p Z.c_NoSheet (some d))) d (exd d [("word", b), ("place", a)]))
theorem raise_NoSheet {Z : Adr} {H : Hp} {W : WX} {σ : L2.St} {k : Int} {w : Str} (h : ∀ d H', Same H H' → XdAt H' d (k, w) → W (.ref Z.c_NoSheet) (some d) σ H') : zMkO Z.c_NoSheet (Sp3 (q_NoSheet_init Z)) [.int k, .str w] H (fun cls d H' => W cls d σ H') := by
  refine ⟨by show 2 ≤ 1000; decide, fun a ha => ⟨.ref a, .int k, .str w, rfl, a, rfl, upd_same, fun d hd hda => ⟨rfl, d, [("word", .str w), ("place", .int k)], ?_, upd_same, ?_, ?_⟩⟩⟩
  · rw [upd_ne (Ne.symm hda), upd_same]
  · rw [upd_ne hda] at hd; exact hd
  · rw [upd_ne hda] at hd
    refine h d _ (fun b o hb => ?_) upd_same
    have n1 : b ≠ d := ne_of_none hb hd
    have n2 : b ≠ a := ne_of_none hb ha
    rw [upd_ne n1, del_ne n2, upd_ne n1, upd_ne n2, upd_ne n1, upd_ne n2]
    exact hb
def q_parts_of (Z : Adr) (a : V) (H : Hp) (Q : VK) (E : XK) : Prop := ∃ i : Int, a = .int i ∧ ∀ H', Same H H' → Q (.int (manyP i)) H'
def q_Look_init (Z : Adr) (s n : V) (H : Hp) (Q : VK) (E : XK) : Prop := ∃ p dx a xs, s = .ref p ∧ n = .ref a ∧ H p = some (.ins Z.c_Look dx []) ∧ SqL Z.K H a (xs.map V.int) ∧ ∀ l H', But p H H' → LookAt Z H' p dx l xs 0 → H l = none → Q .non H'
def q_Look_due (Z : Adr) (s : V) (H : Hp) (Q : VK) (E : XK) : Prop := ∃ p dx l xs k, s = .ref p ∧ k ≤ xs.length ∧ LookAt Z H p dx l xs k ∧ (∀ v, dueP xs k = .ok v → ∀ H', But p H H' → LookAt Z H' p dx l xs (k + 1) → Q (.int v) H') ∧ ∀ er, dueP xs k = .error er → ErrS Z p H er E
def q_Look_within (Z : Adr) (s lo hi : V) (H : Hp) (Q : VK) (E : XK) : Prop := ∃ p dx l xs k a b, s = .ref p ∧ lo = .int a ∧ hi = .int b ∧ k ≤ xs.length ∧ LookAt Z H p dx l xs k ∧ (∀ v, withinP xs k a b = .ok v → ∀ H', But p H H' → LookAt Z H' p dx l xs (k + 1) → Q (.int v) H') ∧ ∀ er, withinP xs k a b = .error er → ErrS Z p H er E
def q_heads_in (Z : Adr) (s : V) (H : Hp) (Q : VK) (E : XK) : Prop := ∃ p dx l xs, s = .ref p ∧ LookAt Z H p dx l xs 0 ∧ (∀ hs, headsP xs = .ok hs → ∀ lh vs H', But p H H' → LookAt Z H' p dx l xs (1 + 2 * hs.length) → H lh = none → H' lh = some (.lst vs) → PairsAt H' hs vs → Q (.ref lh) H') ∧ ∀ er, headsP xs = .error er → ErrS Z p H er E
def q_own_numbers (Z : Adr) (s h b c : V) (H : Hp) (Q : VK) (E : XK) : Prop := ∃ (p dx l : Addr) (xs : List Int) (k : Nat) (lh : Addr) (hs : List (Int × Int)) (vs : List V) (bx kind : Int), s = .ref p ∧ h = .ref lh ∧ b = .int bx ∧ c = .int kind ∧ k ≤ xs.length ∧ LookAt Z H p dx l xs k ∧ H lh = some (.lst vs) ∧ PairsAt H hs vs ∧
  (∀ o, ownP xs hs bx kind k = .ok o → ∀ t tn H', But p H H' → LookAt Z H' p dx l xs o.2.2 → H' t = some (.tup [.ref tn, .int o.2.1]) → H' tn = some (.tup (o.1.map V.int)) → Q (.ref t) H') ∧ ∀ er, ownP xs hs bx kind k = .error er → ErrS Z p H er E
def q_node_in (Z : Adr) (n : Nat) (s h b c : V) (H : Hp) (Q : VK) (E : XK) : Prop := ∃ (p dx l : Addr) (xs : List Int) (k : Nat) (lh : Addr) (hs : List (Int × Int)) (vs : List V) (bx d : Int) (f : Nat), s = .ref p ∧ h = .ref lh ∧ b = .int bx ∧ c = .int d ∧ d + f = 11 ∧ f + 1 ≤ n ∧ (∀ h ∈ hs, 0 ≤ h.1 ∧ h.1 ≤ 12) ∧ k ≤ xs.length ∧ LookAt Z H p dx l xs k ∧ H lh = some (.lst vs) ∧ PairsAt H hs vs ∧
  (∀ r, nodeP xs hs bx f k = .ok r → ∀ v H', But p H H' → LookAt Z H' p dx l xs r.2 → NodeAt H' r.1 v → Q v H') ∧ ∀ er, nodeP xs hs bx f k = .error er → ErrS Z p H er E
theorem no_node_in {Z : Adr} {s h b c : V} {H : Hp} {Q : VK} {E : XK} : ¬ q_node_in Z 0 s h b c H Q E := by
  rintro ⟨p, dx, l, xs, k, lh, hs, vs, bx, d, f, _, _, _, _, _, hf, _⟩
  omega
def q_functions (Z : Adr) (a : V) (H : Hp) (Q : VK) (E : XK) : Prop := ∃ ls xs, a = .ref ls ∧ SqL Z.K H ls (xs.map V.int) ∧ (∀ hs bs, funsP xs = .ok (hs, bs) → ∀ lf vs H', Same H H' → H lf = none → H' lf = some (.lst vs) → FunsAt H' hs bs vs → Q (.ref lf) H') ∧
  ∀ er, funsP xs = .error er → ∀ d H', Same H H' → XdAt H' d er → E (.ref Z.c_NoSheet) (some d) H'
def q_wrong (Z : Adr) (a : V) (H : Hp) (Q : VK) (E : XK) : Prop := ∃ ls xs, a = .ref ls ∧ SqL Z.K H ls (xs.map V.int) ∧ (∀ r, funsP xs = .ok r → ∀ H', Same H H' → Q .non H') ∧
  ∀ er, funsP xs = .error er → ∀ t H', Same H H' → H' t = some (.tup [.int er.1, .str er.2]) → Q (.ref t) H'

/-! ### a generator whose state is a list: script, at, left -/
def St3 (K : PySem.W.Frag) (H : Hp) (p : Addr) : Prop := ∃ (sa : Addr) (ns : List Int) (k l : Int), Scr K H sa ns ∧ 0 ≤ k ∧ 0 ≤ l ∧ H p = some (.lst [.ref sa, .int k, .int l])
theorem St3.ne {K : PySem.W.Frag} {H : Hp} {p q : Addr} (h : St3 K H p) (hq : H q = none) : q ≠ p := by
  obtain ⟨sa, ns, k, l, hS, hk, hl, hp⟩ := h
  exact (ne_of_none hp hq).symm
theorem St3.but {K : PySem.W.Frag} {H H' : Hp} {p q : Addr} (h : St3 K H p) (B : But q H H') (n : p ≠ q) : St3 K H' p := by
  obtain ⟨sa, ns, k, l, hS, hk, hl, hp⟩ := h
  exact ⟨sa, ns, k, l, hS.but B, hk, hl, B _ _ (.inl n) hp⟩
theorem St3.same {K : PySem.W.Frag} {H H' : Hp} {p : Addr} (h : St3 K H p) (S : Same H H') : St3 K H' p := by
  obtain ⟨sa, ns, k, l, hS, hk, hl, hp⟩ := h
  exact ⟨sa, ns, k, l, hS.same S, hk, hl, S _ _ hp⟩
theorem St3.new {K : PySem.W.Frag} {H : Hp} {p q : Addr} {o : HO} (h : St3 K H p) (hq : H q = none) : St3 K (upd H q o) p := h.same (same_new hq)
theorem St3.tups {K : PySem.W.Frag} {H H' : Hp} {p : Addr} (h : St3 K H p) (B : But p H H') : TupS H H' := by
  obtain ⟨sa, ns, k, l, hS, hk, hl, hp⟩ := h
  exact TupS.but B hp fun ys e => by cases e

/-! ### sheets as a law draws them -/
def HeadsOK (hs : List (Int × Int)) : Prop := 1 ≤ hs.length ∧ hs.length ≤ 16 ∧ ∀ (i : Nat) (h : Int × Int), hs[i]? = some h → 0 ≤ h.1 ∧ h.1 ≤ (if 0 < i then 4 else 0) ∧ h.1 ≤ h.2 ∧ h.2 ≤ 12
mutual
def enc : Nd → List Int
  | .mk k _ ns ps => k :: (ns ++ encs ps)
def encs : List Nd → List Int
  | [] => []
  | n :: ns => enc n ++ encs ns
end
mutual
/-- a node, its places forgotten -/
def strip : Nd → Nd
  | .mk k _ ns ps => .mk k 0 ns (strips ps)
def strips : List Nd → List Nd
  | [] => []
  | n :: ns => strip n :: strips ns
end
theorem strips_map : ∀ l : List Nd, strips l = l.map strip
  | [] => rfl
  | n :: l => by show strip n :: strips l = _; rw [strips_map l]; rfl
theorem encs_app : ∀ a b : List Nd, encs (a ++ b) = encs a ++ encs b
  | [], b => rfl
  | x :: a, b => by show enc x ++ encs (a ++ b) = _; rw [encs_app a b, ← List.append_assoc]; rfl
def OwnOK (hs : List (Int × Int)) (bx k : Int) (ns : List Int) (m : Nat) : Prop :=
  (k = 0 ∧ m = 0 ∧ ∃ v, ns = [v]) ∨ (((k = 1 ∧ m = 0) ∨ (k = 2 ∧ m = 1)) ∧ ∃ v, ns = [v] ∧ 0 ≤ v ∧ v < bx) ∨ (k = 3 ∧ 1 ≤ m ∧ m ≤ 12 ∧ ns = [(m : Int)]) ∨
  (k = 4 ∧ ∃ v : Nat, ns = [(v : Int)] ∧ 2 ≤ v ∧ v ≤ 12 ∧ m = v + 1) ∨ (k = 6 ∧ ∃ (v : Nat) (h : Int × Int), ns = [(v : Int)] ∧ hs[v]? = some h ∧ (m : Int) = h.1) ∨ (k = 5 ∧ m = 2 ∧ ns = []) ∨ (7 ≤ k ∧ ns = [] ∧ (m : Int) = manyP k)
def OkN (hs : List (Int × Int)) (bx : Int) : Nat → Nd → Prop
  | 0, _ => False
  | f + 1, .mk k _ ns ps => 0 ≤ k ∧ k ≤ 19 ∧ OwnOK hs bx k ns ps.length ∧ ∀ p ∈ ps, OkN hs bx f p
theorem at_drop {xs : List Int} {k : Nat} {a : Int} {r : List Int} (h : xs.drop k = a :: r) : xs[k]? = some a ∧ xs.drop (k + 1) = r := by
  constructor
  · have := congrArg (·[0]?) h
    simpa using this
  · have := congrArg (List.drop 1) h
    rw [List.drop_drop] at this
    simpa using this
theorem drop_app {xs a r : List Int} {k : Nat} (h : xs.drop k = a ++ r) : xs.drop (k + a.length) = r := by
  have := congrArg (List.drop a.length) h
  rw [List.drop_drop] at this
  simpa using this
theorem ownP_of {xs : List Int} {hs : List (Int × Int)} {bx kind : Int} {k m : Nat} {ns r : List Int} (h : OwnOK hs bx kind ns m) (e : xs.drop k = ns ++ r) : ownP xs hs bx kind k = .ok (ns, (m : Int), k + ns.length) := by
  unfold ownP
  rcases h with ⟨rfl, rfl, v, rfl⟩ | ⟨h, v, rfl, v0, v1⟩ | ⟨rfl, m1, m2, rfl⟩ | ⟨rfl, v, rfl, v0, v1, rfl⟩ | ⟨rfl, v, h, rfl, eh, em⟩ | ⟨rfl, rfl, rfl⟩ | ⟨hk, rfl, em⟩
  · rw [if_pos rfl, bindR_of (dueP_of (at_drop e).1)]; rfl
  · rcases h with ⟨rfl, rfl⟩ | ⟨rfl, rfl⟩
    · rw [if_neg (by omega), if_pos rfl, bindR_of (withinP_of (at_drop e).1 v0 (by omega))]; rfl
    · rw [if_neg (by omega), if_neg (by omega), if_pos rfl, bindR_of (withinP_of (at_drop e).1 v0 (by omega))]; rfl
  · rw [if_neg (by omega), if_neg (by omega), if_neg (by omega), if_pos rfl, bindR_of (withinP_of (at_drop e).1 (by omega) (by omega))]; rfl
  · rw [if_neg (by omega), if_neg (by omega), if_neg (by omega), if_neg (by omega), if_pos rfl, bindR_of (withinP_of (at_drop e).1 (by omega) (by omega))]; rfl
  · have hv := (List.getElem?_eq_some_iff.mp eh).1
    rw [if_neg (by omega), if_neg (by omega), if_neg (by omega), if_neg (by omega), if_neg (by omega), if_pos rfl, bindR_of (withinP_of (at_drop e).1 (by omega) (by omega))]
    have : (hs.getD (v : Int).toNat (0, 0)).1 = (m : Int) := by
      rw [Int.toNat_natCast, List.getD_eq_getElem?_getD, eh, em]; rfl
    rw [this]; rfl
  · rw [if_neg (by omega), if_neg (by omega), if_neg (by omega), if_neg (by omega), if_neg (by omega), if_neg (by omega), if_pos rfl]; rfl
  · rw [if_neg (by omega), if_neg (by omega), if_neg (by omega), if_neg (by omega), if_neg (by omega), if_neg (by omega), if_neg (by omega), em]; rfl
theorem parts_of {xs : List Int} {f : Nat → Rz (Nd × Nat)} {k : Nat} {ps : List Nd} {r : List Int} (hf : ∀ p ∈ ps, ∀ k r, xs.drop k = enc p ++ r → ∃ t, f k = .ok (t, k + (enc p).length) ∧ strip t = strip p) (e : xs.drop k = encs ps ++ r) :
    ∀ m, m ≤ ps.length → ∃ ts, partsP f m k = .ok (ts, k + (encs (ps.take m)).length) ∧ ts.map strip = (ps.take m).map strip
  | 0, _ => ⟨[], rfl, rfl⟩
  | m + 1, hm => by
    obtain ⟨ts, h, hst⟩ := parts_of hf e m (by omega)
    have hm' : m < ps.length := by omega
    have e1 : ps = ps.take m ++ ps[m] :: ps.drop (m + 1) := by rw [← List.drop_eq_getElem_cons hm', List.take_append_drop]
    have e2 : encs ps = encs (ps.take m) ++ (enc ps[m] ++ encs (ps.drop (m + 1))) := by
      conv => lhs; rw [e1]
      rw [encs_app]; rfl
    rw [e2, List.append_assoc] at e
    have e3 := drop_app e
    rw [List.append_assoc] at e3
    obtain ⟨t, ht, hst2⟩ := hf _ (List.getElem_mem hm') _ _ e3
    refine ⟨ts ++ [t], ?_, by rw [List.take_succ_eq_append_getElem hm', List.map_append, List.map_append, hst]; show _ ++ [strip t] = _ ++ [strip ps[m]]; rw [hst2]⟩
    show bindR (partsP f m k) _ = _
    rw [bindR_of h, bindR_of ht, List.take_succ_eq_append_getElem hm', encs_app]
    simp only [encs, List.append_nil, List.length_append]
    rw [Nat.add_assoc]
theorem node_of {xs : List Int} {hs : List (Int × Int)} {bx : Int} : ∀ {f : Nat} {t : Nd} {k : Nat} {r : List Int}, OkN hs bx f t → xs.drop k = enc t ++ r → ∃ t', nodeP xs hs bx f k = .ok (t', k + (enc t).length) ∧ strip t' = strip t
  | 0, t, _, _, h, _ => by cases t; exact h.elim
  | f + 1, .mk kind pl ns ps, k, r, h, e => by
    obtain ⟨h0, h1, ho, hp⟩ := h
    have e : xs.drop k = kind :: (ns ++ encs ps ++ r) := by simpa [enc] using e
    obtain ⟨e1, e2⟩ := at_drop e
    rw [List.append_assoc] at e2
    have e3 := drop_app e2
    obtain ⟨ts, h3, hst⟩ := parts_of (f := nodeP xs hs bx f) (fun p hm k r hk => node_of (hp p hm) hk) e3 ps.length (Nat.le_refl _)
    rw [List.take_length] at hst
    refine ⟨.mk kind k ns ts, ?_, by show Nd.mk kind 0 ns (strips ts) = .mk kind 0 ns (strips ps); rw [strips_map, strips_map, hst]⟩
    unfold nodeP
    rw [bindR_of (withinP_of e1 h0 h1), bindR_of (ownP_of ho e2)]
    rw [List.take_length] at h3
    have h3' : partsP (nodeP xs hs bx f) ((ps.length : Int).toNat) (k + 1 + ns.length) = .ok (ts, k + 1 + ns.length + (encs ps).length) := by rw [Int.toNat_natCast]; exact h3
    show bindR (partsP (nodeP xs hs bx f) ((ps.length : Int).toNat) (k + 1 + ns.length)) _ = _
    rw [bindR_of h3']
    simp only [enc, List.length_cons, List.length_append]
    congr 2
    omega
def flat (hs : List (Int × Int)) : List Int := hs.flatMap fun h => [h.1, h.2]
theorem flat_len (hs : List (Int × Int)) : (flat hs).length = 2 * hs.length := by
  induction hs with
  | nil => rfl
  | cons h hs ih => show ((h.1 :: h.2 :: flat hs)).length = _; rw [List.length_cons, List.length_cons, ih, List.length_cons]; omega
theorem flat_app (a b : List (Int × Int)) : flat (a ++ b) = flat a ++ flat b := List.flatMap_append
theorem flat_at : ∀ {hs : List (Int × Int)} {i : Nat} {h : Int × Int} {r : List Int}, hs[i]? = some h → (flat hs ++ r)[2 * i]? = some h.1 ∧ (flat hs ++ r)[2 * i + 1]? = some h.2
  | h :: hs, 0, _, r, e => by cases e; exact ⟨rfl, rfl⟩
  | x :: hs, i + 1, h, r, e => by
    have := flat_at (hs := hs) (i := i) (r := r) (by simpa using e)
    have e2 : flat (x :: hs) ++ r = x.1 :: x.2 :: (flat hs ++ r) := rfl
    rw [e2, show 2 * (i + 1) = 2 * i + 1 + 1 by omega]
    exact this
theorem heads_of {hs : List (Int × Int)} {r : List Int} (H : HeadsOK hs) : ∀ i, i ≤ hs.length → headsL ((hs.length : Int) :: (flat hs ++ r)) i = .ok (hs.take i)
  | 0, _ => rfl
  | i + 1, hi => by
    have hi' : i < hs.length := by omega
    have eh : hs[i]? = some hs[i] := List.getElem?_eq_getElem hi'
    obtain ⟨a0, a1, a2, a3⟩ := H.2.2 i _ eh
    have f := flat_at (r := r) eh
    unfold headsL
    rw [bindR_of (heads_of H i (by omega)), bindR_of (withinP_of (v := hs[i].1) (by rw [show 1 + 2 * i = 2 * i + 1 by omega]; exact f.1) a0 a1),
      bindR_of (withinP_of (v := hs[i].2) (by rw [show 2 + 2 * i = 2 * i + 1 + 1 by omega]; exact f.2) a2 a3), List.take_succ_eq_append_getElem hi']
theorem headsP_of {hs : List (Int × Int)} {r : List Int} (H : HeadsOK hs) : headsP ((hs.length : Int) :: (flat hs ++ r)) = .ok hs := by
  have := H.1
  have := H.2.1
  unfold headsP
  rw [bindR_of (withinP_of (v := (hs.length : Int)) rfl (by omega) (by omega)), Int.toNat_natCast, heads_of H _ (Nat.le_refl _), List.take_length]
theorem bodies_of {xs : List Int} {hs : List (Int × Int)} {k : Nat} {ts : List Nd} (hl : ts.length = hs.length) (ho : ∀ (i : Nat) (h : Int × Int) (t : Nd), hs[i]? = some h → ts[i]? = some t → OkN hs h.2 10 t) (e : xs.drop k = encs ts) :
    ∀ m, m ≤ hs.length → ∃ bs, bodiesP xs hs m k = .ok (bs, k + (encs (ts.take m)).length) ∧ bs.map strip = (ts.take m).map strip
  | 0, _ => ⟨[], rfl, rfl⟩
  | m + 1, hm => by
    obtain ⟨bs, h, hst⟩ := bodies_of hl ho e m (by omega)
    have hm' : m < hs.length := by omega
    have hmt : m < ts.length := by omega
    have eh : hs[m]? = some hs[m] := List.getElem?_eq_getElem hm'
    have e1 : ts = ts.take m ++ ts[m] :: ts.drop (m + 1) := by rw [← List.drop_eq_getElem_cons hmt, List.take_append_drop]
    have e2 : encs ts = encs (ts.take m) ++ (enc ts[m] ++ encs (ts.drop (m + 1))) := by
      conv => lhs; rw [e1]
      rw [encs_app]; rfl
    have e3 : xs.drop k = encs (ts.take m) ++ (enc ts[m] ++ encs (ts.drop (m + 1))) := by rw [e, e2]
    obtain ⟨t, ht, hst2⟩ := node_of (ho m _ _ eh (List.getElem?_eq_getElem hmt)) (drop_app e3)
    have ed : hs.getD m (0, 0) = hs[m] := by rw [List.getD_eq_getElem?_getD, eh]; rfl
    refine ⟨bs ++ [t], ?_, by rw [List.take_succ_eq_append_getElem hmt, List.map_append, List.map_append, hst]; show _ ++ [strip t] = _ ++ [strip ts[m]]; rw [hst2]⟩
    unfold bodiesP
    rw [bindR_of h, ed, bindR_of ht, List.take_succ_eq_append_getElem hmt, encs_app]
    simp only [encs, List.append_nil, List.length_append]
    rw [Nat.add_assoc]
theorem sheet_ofS {hs : List (Int × Int)} {ts : List Nd} (H : HeadsOK hs) (hl : ts.length = hs.length) (ho : ∀ (i : Nat) (h : Int × Int) (t : Nd), hs[i]? = some h → ts[i]? = some t → OkN hs h.2 10 t) : ∃ bs, funsP ((hs.length : Int) :: (flat hs ++ encs ts)) = .ok (hs, bs) ∧ bs.map strip = ts.map strip := by
  have e : ((hs.length : Int) :: (flat hs ++ encs ts)).drop (1 + 2 * hs.length) = encs ts := by
    rw [Nat.add_comm, List.drop_succ_cons, ← flat_len hs, List.drop_left]
  obtain ⟨bs, h, hst⟩ := bodies_of hl ho e hs.length (Nat.le_refl _)
  rw [← hl, List.take_length] at hst
  refine ⟨bs, ?_, hst⟩
  unfold funsP
  rw [bindR_of (headsP_of H), bindR_of h, if_neg ?_]
  rw [← hl, List.take_length, hl]
  simp only [List.length_cons, List.length_append, flat_len]
  omega
theorem sheet_of {hs : List (Int × Int)} {ts : List Nd} (H : HeadsOK hs) (hl : ts.length = hs.length) (ho : ∀ (i : Nat) (h : Int × Int) (t : Nd), hs[i]? = some h → ts[i]? = some t → OkN hs h.2 10 t) : ∃ bs, funsP ((hs.length : Int) :: (flat hs ++ encs ts)) = .ok (hs, bs) := by
  obtain ⟨bs, h, _⟩ := sheet_ofS H hl ho
  exact ⟨bs, h⟩

/-! ### nodes and functions as data -/
mutual
def ndD : Nd → PyData
  | .mk k p ns ps => .tuple [.int k, .int p, .tuple (ns.map PyData.int), .tuple (ndDs ps)]
def ndDs : List Nd → List PyData
  | [] => []
  | n :: ns => ndD n :: ndDs ns
end
mutual
theorem nd_dp {K : PySem.W.Frag} {H : Hp} : ∀ {n : Nd} {v : V}, NodeAt H n v → Dp K H v (ndD n)
  | .mk _ _ ns _, _, ⟨t, tn, tp, vs, e, h1, h2, h3, h4⟩ => by
    rw [e]
    exact .tup (SqT.of h1) (.cons (.int _) (.cons (.int _) (.cons (.tup (SqT.of h2) (dp_ints ns)) (.cons (.tup (SqT.of h3) (nds_dp h4)) .nil))))
theorem nds_dp {K : PySem.W.Frag} {H : Hp} : ∀ {ns : List Nd} {vs : List V}, NodesAt H ns vs → DpAll K H vs (ndDs ns)
  | [], _, h => by rw [show _ = [] from h]; exact .nil
  | _ :: _, _, ⟨v, r, e, h1, h2⟩ => by rw [e]; exact .cons (nd_dp h1) (nds_dp h2)
end
theorem ndDs_mem : ∀ {ns : List Nd} {d : PyData}, d ∈ ndDs ns → ∃ n ∈ ns, d = ndD n
  | [], _, h => by cases h
  | n :: ns, d, h => by
    rcases List.mem_cons.mp h with e | h
    · exact ⟨n, List.mem_cons_self, e⟩
    · obtain ⟨m, hm, e⟩ := ndDs_mem h
      exact ⟨m, List.mem_cons_of_mem _ hm, e⟩
theorem partsP_mem {f : Nat → Rz (Nd × Nat)} {k : Nat} : ∀ {m : Nat} {r : List Nd × Nat}, partsP f m k = .ok r → ∀ n ∈ r.1, ∃ j j', f j = .ok (n, j')
  | 0, r, h, n, hn => by cases h; cases hn
  | m + 1, r, h, n, hn => by
    obtain ⟨a, h1, h2⟩ := bindR_ok h
    obtain ⟨b, h3, h4⟩ := bindR_ok h2
    cases h4
    rcases List.mem_append.mp hn with z | z
    · exact partsP_mem h1 n z
    · rw [List.mem_singleton.mp z]
      exact ⟨_, _, h3⟩
theorem nd_sh {xs : List Int} {hs : List (Int × Int)} {bx : Int} : ∀ {f k k' : Nat} {n : Nd}, nodeP xs hs bx f k = .ok (n, k') → Sh (2 * f + 1) (ndD n)
  | 0, k, k', n, h => by unfold nodeP at h; cases h
  | f + 1, k, k', n, h => by
    obtain ⟨kind, o, p, h1, h2, h3, h4, h5, e⟩ := nodeP_ok h
    cases e
    refine Sh.tup fun d hd => ?_
    simp only [List.mem_cons, List.not_mem_nil, or_false] at hd
    rcases hd with e | e | e | e <;> subst e
    · exact Sh.int _
    · exact Sh.int _
    · exact (Sh.tup (n := 0) (sh_ints _)).mono (by omega)
    · refine Sh.tup fun d hd => ?_
      obtain ⟨m, hm, rfl⟩ := ndDs_mem hd
      obtain ⟨j, j', hj⟩ := partsP_mem h5 m hm
      exact nd_sh hj
def funD : List (Int × Int) → List Nd → List PyData
  | h :: hs, b :: bs => .tuple [.int h.1, .int h.2, ndD b] :: funD hs bs
  | _, _ => []
theorem fun_dp {K : PySem.W.Frag} {H : Hp} : ∀ {hs : List (Int × Int)} {bs : List Nd} {vs : List V}, FunsAt H hs bs vs → DpAll K H vs (funD hs bs)
  | [], [], _, h => by rw [show _ = [] from h]; exact .nil
  | _ :: _, _ :: _, _, ⟨t, vb, r, e, h1, h2, h3⟩ => by rw [e]; exact .cons (.tup (SqT.of h1) (.cons (.int _) (.cons (.int _) (.cons (nd_dp h2) .nil)))) (fun_dp h3)
theorem funD_mem : ∀ {hs : List (Int × Int)} {bs : List Nd} {d : PyData}, d ∈ funD hs bs → ∃ (a b : Int), ∃ n ∈ bs, d = .tuple [.int a, .int b, ndD n]
  | [], [], _, h => by cases h
  | [], _ :: _, _, h => by cases h
  | _ :: _, [], _, h => by cases h
  | h :: hs, b :: bs, d, hd => by
    rcases List.mem_cons.mp hd with e | e
    · exact ⟨_, _, b, List.mem_cons_self, e⟩
    · obtain ⟨x, y, n, hn, e2⟩ := funD_mem e
      exact ⟨x, y, n, List.mem_cons_of_mem _ hn, e2⟩
theorem bodiesP_mem {xs : List Int} {hs : List (Int × Int)} {k : Nat} : ∀ {m : Nat} {r : List Nd × Nat}, bodiesP xs hs m k = .ok r → ∀ n ∈ r.1, ∃ bx j j', nodeP xs hs bx 10 j = .ok (n, j')
  | 0, r, h, n, hn => by cases h; cases hn
  | m + 1, r, h, n, hn => by
    obtain ⟨a, h1, h2⟩ := bindR_ok h
    obtain ⟨b, h3, h4⟩ := bindR_ok h2
    cases h4
    rcases List.mem_append.mp hn with z | z
    · exact bodiesP_mem h1 n z
    · rw [List.mem_singleton.mp z]
      exact ⟨_, _, _, h3⟩
theorem fun_sh {xs : List Int} {hs : List (Int × Int)} {bs : List Nd} (h : funsP xs = .ok (hs, bs)) : Sh 30 (.list (funD hs bs)) := by
  obtain ⟨k, _, h2, _⟩ := funsP_ok h
  refine (Sh.list (n := 22) fun d hd => ?_).mono (by omega)
  obtain ⟨a, b, n, hn, rfl⟩ := funD_mem hd
  obtain ⟨bx, j, j', hj⟩ := bodiesP_mem h2 n hn
  refine Sh.tup fun d hd => ?_
  simp only [List.mem_cons, List.not_mem_nil, or_false] at hd
  rcases hd with e | e | e <;> subst e
  · exact Sh.int _
  · exact Sh.int _
  · exact nd_sh hj
/-! ### the promises of a law's own drawing -/
def q_Lmixed (Z : Adr) (a b : V) (H : Hp) (Q : VK) (E : XK) : Prop := ∃ c k, a = .int c ∧ b = .int k ∧ ∀ z, Q (.int z) H
def q_Ltake (Z : Adr) (a b : V) (H : Hp) (Q : VK) (E : XK) : Prop := ∃ p m, a = .ref p ∧ b = .int m ∧ 0 < m ∧ m < 10 ^ 70 ∧ St3 Z.K H p ∧ ∀ v H', 0 ≤ v → v < m → St3 Z.K H' p → But p H H' → Q (.int v) H'
def q_Lheads (Z : Adr) (a : V) (H : Hp) (Q : VK) (E : XK) : Prop := ∃ p, a = .ref p ∧ St3 Z.K H p ∧ ∀ lh hs vs H', HeadsOK hs → H lh = none → H' lh = some (.lst vs) → PairsAt H' hs vs → St3 Z.K H' p → But p H H' → Q (.ref lh) H'
def q_Lnumber (Z : Adr) (a : V) (H : Hp) (Q : VK) (E : XK) : Prop := ∃ p, a = .ref p ∧ St3 Z.K H p ∧ ∀ v H', -10 ^ 60 ≤ v → v ≤ 10 ^ 60 → St3 Z.K H' p → But p H H' → Q (.int v) H'
def q_Lleaf (Z : Adr) (a b : V) (H : Hp) (Q : VK) (E : XK) : Prop := ∃ p bx, a = .ref p ∧ b = .int bx ∧ bx < 10 ^ 70 ∧ St3 Z.K H p ∧ ∀ l t H', H l = none → H' l = some (.lst ((enc t).map V.int)) → (∀ hs f, OkN hs bx (f + 1) t) → (enc t).length ≤ 2 → St3 Z.K H' p → But p H H' → Q (.ref l) H'
def q_Lhead (Z : Adr) (a b c : V) (H : Hp) (Q : VK) (E : XK) : Prop := ∃ (p lh : Addr) (hs : List (Int × Int)) (vs : List V) (bx : Int), a = .ref p ∧ b = .ref lh ∧ c = .int bx ∧ bx < 10 ^ 70 ∧ HeadsOK hs ∧ H lh = some (.lst vs) ∧ PairsAt H hs vs ∧ St3 Z.K H p ∧
  ∀ t l (own : List Int) (many : Int) H', H' t = some (.tup [.ref l, .int many]) → H' l = some (.lst (own.map V.int)) → H l = none → ((∃ k, own = [k] ∧ k < 3) ∨ ∃ k ns m, own = k :: ns ∧ 0 ≤ k ∧ k ≤ 19 ∧ (k < 3 → ns.length = 1) ∧ ns.length ≤ 1 ∧ OwnOK hs bx k ns m ∧ many = (m : Int)) → St3 Z.K H' p → But p H H' → Q (.ref t) H'
def q_Lnode (Z : Adr) (n : Nat) (a b c d e : V) (H : Hp) (Q : VK) (E : XK) : Prop := ∃ (p lh lr : Addr) (hs : List (Int × Int)) (vs : List V) (bx dd r : Int) (f : Nat), a = .ref p ∧ b = .ref lh ∧ c = .int bx ∧ d = .int dd ∧ e = .ref lr ∧ dd + f = 11 ∧ 1 ≤ f ∧ f ≤ n ∧ bx < 10 ^ 70 ∧ HeadsOK hs ∧ H lh = some (.lst vs) ∧ PairsAt H hs vs ∧ lr ≠ lh ∧
  H lr = some (.lst [.int r]) ∧ 0 ≤ r ∧ r ≤ 1000 ∧ St3 Z.K H p ∧ ∀ (l : Addr) (t : Nd) (r' : Int) (H' : Hp), H l = none → H' l = some (.lst ((enc t).map V.int)) → OkN hs bx f t → ((enc t).length : Int) ≤ 2 * (1 + r - r') → 0 ≤ r' → r' ≤ r → H' lr = some (.lst [.int r']) → St3 Z.K H' p → But2 p lr H H' → Q (.ref l) H'
theorem no_Lnode {Z : Adr} {a b c d e : V} {H : Hp} {Q : VK} {E : XK} : ¬ q_Lnode Z 0 a b c d e H Q E := fun ⟨p, lh, lr, hs, vs, bx, dd, r, f, _, _, _, _, _, _, h1, h2, _⟩ => by omega
def q_Lsheet (Z : Adr) (a b : V) (H : Hp) (Q : VK) (E : XK) : Prop := ∃ p m, a = .ref p ∧ b = .int m ∧ 0 < m ∧ m ≤ 1000 ∧ St3 Z.K H p ∧ ∀ l xs hs bs H', H l = none → H' l = some (.lst (xs.map V.int)) → funsP xs = .ok (hs, bs) → xs.length ≤ 100000 → St3 Z.K H' p → But p H H' → Q (.ref l) H'

/-! ### what is read of a list depends on what stands ahead alone -/
structure Px {α : Type} (s : Nat) (F : List Int → Rz α) (e : α → Nat) : Prop where
  lo : ∀ xs p w, F xs = .error (p, w) → (s : Int) ≤ p ∧ (s ≤ xs.length → p ≤ xs.length) ∧ (w = "range" → p < xs.length) ∧ (w = "end" ∨ w = "range" ∨ w = "deep")
  lk : ∀ xs r, F xs = .ok r → s ≤ e r ∧ (s ≤ xs.length → e r ≤ xs.length)
  ok : ∀ xs zs r, F xs = .ok r → F (xs ++ zs) = .ok r
  er : ∀ xs zs p w, F xs = .error (p, w) → w ≠ "end" → F (xs ++ zs) = .error (p, w)
  en : ∀ xs zs p, s ≤ xs.length → F xs = .error (p, "end") → p = xs.length ∧ (∀ p' w', F (xs ++ zs) = .error (p', w') → p ≤ p' ∧ (w' = "deep" → p < p')) ∧ ∀ r, F (xs ++ zs) = .ok r → p < e r
theorem w_er : ¬ (("end" : Str) = "range") := by decide +kernel
theorem w_re : ¬ (("range" : Str) = "end") := by decide +kernel
theorem w_de : ¬ (("deep" : Str) = "end") := by decide +kernel
theorem w_dr : ¬ (("deep" : Str) = "range") := by decide +kernel
theorem w_ed : ¬ (("end" : Str) = "deep") := by decide +kernel
theorem w_rd : ¬ (("range" : Str) = "deep") := by decide +kernel
theorem Px.bind {α β : Type} {s : Nat} {F : List Int → Rz α} {e : α → Nat} {f : α → List Int → Rz β} {e' : β → Nat} (P : Px s F e) (Pf : ∀ a xs, F xs = .ok a → Px (e a) (f a) e') : Px s (fun xs => bindR (F xs) fun a => f a xs) e' := by
  refine ⟨fun xs p w h => ?_, fun xs r h => ?_, fun xs zs r h => ?_, fun xs zs p w h hw => ?_, fun xs zs p hs h => ?_⟩
  · rcases bindR_err h with h1 | ⟨a, h1, h2⟩
    · exact P.lo xs p w h1
    · obtain ⟨a1, a2⟩ := P.lk xs a h1
      obtain ⟨b1, b2, b3, b4⟩ := (Pf a xs h1).lo xs p w h2
      exact ⟨by omega, fun z => b2 (a2 z), b3, b4⟩
  · obtain ⟨a, h1, h2⟩ := bindR_ok h
    obtain ⟨a1, a2⟩ := P.lk xs a h1
    obtain ⟨b1, b2⟩ := (Pf a xs h1).lk xs r h2
    exact ⟨by omega, fun z => b2 (a2 z)⟩
  · obtain ⟨a, h1, h2⟩ := bindR_ok h
    show bindR (F (xs ++ zs)) _ = _
    rw [bindR_of (P.ok xs zs a h1)]
    exact (Pf a xs h1).ok xs zs r h2
  · show bindR (F (xs ++ zs)) _ = _
    rcases bindR_err h with h1 | ⟨a, h1, h2⟩
    · exact bindR_of_err (P.er xs zs p w h1 hw)
    · rw [bindR_of (P.ok xs zs a h1)]
      exact (Pf a xs h1).er xs zs p w h2 hw
  · rcases bindR_err h with h1 | ⟨a, h1, h2⟩
    · obtain ⟨c1, c2, c3⟩ := P.en xs zs p hs h1
      refine ⟨c1, fun p' w' g => ?_, fun r g => ?_⟩
      · rcases bindR_err g with g1 | ⟨a, g1, g2⟩
        · exact c2 p' w' g1
        · have := c3 a g1
          have := ((Pf a _ g1).lo _ _ _ g2).1
          exact ⟨by omega, fun _ => by omega⟩
      · obtain ⟨a, g1, g2⟩ := bindR_ok g
        have := c3 a g1
        have := ((Pf a _ g1).lk _ _ g2).1
        omega
    · obtain ⟨a1, a2⟩ := P.lk xs a h1
      obtain ⟨c1, c2, c3⟩ := (Pf a xs h1).en xs zs p (a2 hs) h2
      have ha := P.ok xs zs a h1
      refine ⟨c1, fun p' w' g => ?_, fun r g => ?_⟩
      · have g : bindR (F (xs ++ zs)) (fun a => f a (xs ++ zs)) = .error (p', w') := g
        rw [bindR_of ha] at g
        exact c2 p' w' g
      · have g : bindR (F (xs ++ zs)) (fun a => f a (xs ++ zs)) = .ok r := g
        rw [bindR_of ha] at g
        exact c3 r g
theorem Px.pure {α : Type} {s : Nat} {a : α} {e : α → Nat} (h : e a = s) : Px s (fun _ => .ok a) e :=
  ⟨fun xs p w h => (by cases h), fun xs r h' => by cases h'; exact ⟨by omega, fun z => by omega⟩, fun xs zs r h => h, fun xs zs p w h => (by cases h), fun xs zs p _ h => (by cases h)⟩
theorem px_due (k : Nat) : Px k (fun xs => dueP xs k) fun _ => k + 1 := by
  have up : ∀ {xs zs : List Int} {v : Int}, xs[k]? = some v → (xs ++ zs)[k]? = some v := fun h => by
    have := (List.getElem?_eq_some_iff.mp h).1
    rw [List.getElem?_append_left this]; exact h
  refine ⟨fun xs p w h => ?_, fun xs r h => ?_, fun xs zs r h => dueP_of (up (dueP_ok h)), fun xs zs p w h hw => ?_, fun xs zs p hs h => ?_⟩
  · obtain ⟨e, hl⟩ := dueP_err h
    cases e
    exact ⟨Int.le_refl _, fun z => by omega, fun z => absurd z w_er, .inl rfl⟩
  · have := (List.getElem?_eq_some_iff.mp (dueP_ok h)).1
    exact ⟨by omega, fun _ => by omega⟩
  · obtain ⟨e, hl⟩ := dueP_err h
    cases e
    exact absurd rfl hw
  · obtain ⟨e, hl⟩ := dueP_err h
    cases e
    refine ⟨by omega, fun p' w' g => ?_, fun r g => by omega⟩
    obtain ⟨e, _⟩ := dueP_err g
    cases e
    exact ⟨Int.le_refl _, fun z => absurd z w_ed⟩
theorem px_within (k : Nat) (lo hi : Int) : Px k (fun xs => withinP xs k lo hi) fun _ => k + 1 := by
  have P := px_due k
  have cases_ : ∀ {xs : List Int} {p : Int} {w : Str}, withinP xs k lo hi = .error (p, w) → dueP xs k = .error (p, w) ∨ ∃ v, xs[k]? = some v ∧ ¬ (lo ≤ v ∧ v ≤ hi) ∧ p = (k : Int) ∧ w = "range" := fun h => by
    rcases bindR_err h with h1 | ⟨a, h1, h2⟩
    · exact .inl h1
    · split at h2
      · cases h2
      · cases h2
        exact .inr ⟨a, dueP_ok h1, by assumption, rfl, rfl⟩
  have ran : ∀ {xs : List Int} {v : Int}, xs[k]? = some v → ¬ (lo ≤ v ∧ v ≤ hi) → withinP xs k lo hi = .error ((k : Int), ("range" : Str)) := fun h c => by
    unfold withinP
    rw [bindR_of (dueP_of h), if_neg c]
  have up : ∀ {xs zs : List Int} {v : Int}, xs[k]? = some v → (xs ++ zs)[k]? = some v := fun h => by
    have := (List.getElem?_eq_some_iff.mp h).1
    rw [List.getElem?_append_left this]; exact h
  refine ⟨fun xs p w h => ?_, fun xs r h => ?_, fun xs zs r h => ?_, fun xs zs p w h hw => ?_, fun xs zs p hs h => ?_⟩
  · rcases cases_ h with h1 | ⟨v, h1, h2, rfl, rfl⟩
    · exact P.lo xs p w h1
    · have := (List.getElem?_eq_some_iff.mp h1).1
      exact ⟨Int.le_refl _, fun _ => by omega, fun _ => by omega, .inr (.inl rfl)⟩
  · have := (List.getElem?_eq_some_iff.mp (withinP_ok h).1).1
    exact ⟨by omega, fun _ => by omega⟩
  · obtain ⟨a, b, c⟩ := withinP_ok h
    exact withinP_of (up a) b c
  · rcases cases_ h with h1 | ⟨v, h1, h2, rfl, rfl⟩
    · exact absurd (by obtain ⟨e, _⟩ := dueP_err h1; cases e; rfl) hw
    · exact ran (up h1) h2
  · rcases cases_ h with h1 | ⟨v, h1, h2, _, hw⟩
    · obtain ⟨c1, c2, c3⟩ := P.en xs zs p hs h1
      refine ⟨c1, fun p' w' g => ?_, fun r g => ?_⟩
      · rcases cases_ g with g1 | ⟨v, g1, g2, rfl, rfl⟩
        · exact c2 p' w' g1
        · exact ⟨by obtain ⟨e, _⟩ := dueP_err h1; cases e; exact Int.le_refl _, fun z => absurd z w_rd⟩
      · exact c3 _ (dueP_of (withinP_ok g).1)
    · exact absurd hw w_er
theorem px_own (hs : List (Int × Int)) (bx kind : Int) (k : Nat) : Px k (fun xs => ownP xs hs bx kind k) fun o => o.2.2 := by
  have one : ∀ {e : Int → List Int × Int × Nat} {lo hi : Int}, (∀ v, (e v).2.2 = k + 1) → Px k (fun xs => bindR (withinP xs k lo hi) fun v => .ok (e v)) fun o => o.2.2 := fun h => (px_within k _ _).bind (f := fun v _ => .ok _) fun v _ _ => Px.pure (h v)
  unfold ownP
  by_cases c0 : kind = 0
  · simp only [if_pos c0]
    exact (px_due k).bind (f := fun v _ => .ok ([v], 0, k + 1)) fun v _ _ => Px.pure (by rfl)
  simp only [if_neg c0]
  by_cases c1 : kind = 1
  · simp only [if_pos c1]; exact one fun v => rfl
  simp only [if_neg c1]
  by_cases c2 : kind = 2
  · simp only [if_pos c2]; exact one fun v => rfl
  simp only [if_neg c2]
  by_cases c3 : kind = 3
  · simp only [if_pos c3]; exact one fun v => rfl
  simp only [if_neg c3]
  by_cases c4 : kind = 4
  · simp only [if_pos c4]; exact one fun v => rfl
  simp only [if_neg c4]
  by_cases c6 : kind = 6
  · simp only [if_pos c6]; exact one fun v => rfl
  simp only [if_neg c6]
  by_cases c5 : kind = 5
  · simp only [if_pos c5]; exact Px.pure (by rfl)
  simp only [if_neg c5]
  exact Px.pure (by rfl)
theorem px_parts {f : List Int → Nat → Rz (Nd × Nat)} (hf : ∀ k, Px k (fun xs => f xs k) fun r => r.2) (k : Nat) : ∀ m, Px k (fun xs => partsP (f xs) m k) fun r => r.2
  | 0 => Px.pure (by rfl)
  | m + 1 => (px_parts hf k m).bind (f := fun a xs => bindR (f xs a.2) fun b => .ok (a.1 ++ [b.1], b.2)) fun a _ _ => (hf a.2).bind (f := fun b _ => .ok (a.1 ++ [b.1], b.2)) fun b _ _ => Px.pure (by rfl)
theorem px_node (hs : List (Int × Int)) (bx : Int) : ∀ (f k : Nat), Px k (fun xs => nodeP xs hs bx f k) fun r => r.2
  | 0, k => ⟨fun xs p w h => (by
      unfold nodeP at h; cases h
      exact ⟨Int.le_refl _, fun z => by omega, fun z => absurd z w_dr, .inr (.inr rfl)⟩), fun xs r h => (by unfold nodeP at h; cases h), fun xs zs r h => (by unfold nodeP at h; cases h), fun xs zs p w h _ => (by unfold nodeP at h ⊢; exact h),
      fun xs zs p _ h => (by unfold nodeP at h; injection h with h; injection h with _ h; exact absurd h w_de)⟩
  | f + 1, k => by
    unfold nodeP
    exact (px_within k 0 19).bind (f := fun kind xs => bindR (ownP xs hs bx kind (k + 1)) fun o => bindR (partsP (nodeP xs hs bx f) o.2.1.toNat o.2.2) fun p => .ok (Nd.mk kind k o.1 p.1, p.2)) fun kind _ _ =>
      (px_own hs bx kind (k + 1)).bind (f := fun o xs => bindR (partsP (nodeP xs hs bx f) o.2.1.toNat o.2.2) fun p => .ok (Nd.mk kind k o.1 p.1, p.2)) fun o _ _ =>
        (px_parts (fun j => px_node hs bx f j) o.2.2 o.2.1.toNat).bind (f := fun p _ => .ok (Nd.mk kind k o.1 p.1, p.2)) fun p _ _ => Px.pure (by rfl)
theorem px_headsL : ∀ i, Px 1 (fun xs => headsL xs i) fun r => 1 + 2 * r.length
  | 0 => Px.pure (by rfl)
  | i + 1 => by
    unfold headsL
    refine (px_headsL i).bind (f := fun hs xs => bindR (withinP xs (1 + 2 * i) 0 (if 0 < i then 4 else 0)) fun p => bindR (withinP xs (2 + 2 * i) p 12) fun b => .ok (hs ++ [(p, b)])) fun hs xs h => ?_
    have len := headsL_len h
    rw [len]
    refine (px_within (1 + 2 * i) 0 _).bind (f := fun p xs => bindR (withinP xs (2 + 2 * i) p 12) fun b => .ok (hs ++ [(p, b)])) fun p _ _ => ?_
    rw [show 1 + 2 * i + 1 = 2 + 2 * i by omega]
    exact (px_within (2 + 2 * i) p 12).bind (f := fun b _ => .ok (hs ++ [(p, b)])) fun b _ _ => Px.pure (by rw [List.length_append, len]; simp; omega)
theorem px_heads : Px 0 headsP fun r => 1 + 2 * r.length := by
  unfold headsP
  exact (px_within 0 1 16).bind (f := fun n xs => headsL xs n.toNat) fun n _ _ => px_headsL n.toNat
theorem px_bodies (hs : List (Int × Int)) (k : Nat) : ∀ m, Px k (fun xs => bodiesP xs hs m k) fun r => r.2
  | 0 => Px.pure (by rfl)
  | m + 1 => by
    unfold bodiesP
    exact (px_bodies hs k m).bind (f := fun a xs => bindR (nodeP xs hs (hs.getD m (0, 0)).2 10 a.2) fun b => .ok (a.1 ++ [b.1], b.2)) fun a _ _ => (px_node hs _ 10 a.2).bind (f := fun b _ => .ok (a.1 ++ [b.1], b.2)) fun b _ _ => Px.pure (by rfl)
def coreP (xs : List Int) : Rz ((List (Int × Int) × List Nd) × Nat) := bindR (headsP xs) fun hs => bindR (bodiesP xs hs hs.length (1 + 2 * hs.length)) fun a => .ok ((hs, a.1), a.2)
theorem px_core : Px 0 coreP fun r => r.2 := by
  unfold coreP
  exact px_heads.bind (f := fun hs xs => bindR (bodiesP xs hs hs.length (1 + 2 * hs.length)) fun a => .ok ((hs, a.1), a.2)) fun hs _ _ => (px_bodies hs _ hs.length).bind (f := fun a _ => .ok ((hs, a.1), a.2)) fun a _ _ => Px.pure (by rfl)
theorem funs_core (xs : List Int) : funsP xs = bindR (coreP xs) fun r => if r.2 < xs.length then .error (r.2, "over") else .ok r.1 := by
  unfold funsP coreP
  cases headsP xs with
  | error e => rfl
  | ok hs =>
    show bindR (bodiesP xs hs hs.length (1 + 2 * hs.length)) _ = bindR (bindR (bodiesP xs hs hs.length (1 + 2 * hs.length)) _) _
    cases bodiesP xs hs hs.length (1 + 2 * hs.length) with
    | error e => rfl
    | ok a => rfl
theorem funs_err {xs : List Int} {p : Int} {w : Str} (h : funsP xs = .error (p, w)) : coreP xs = .error (p, w) ∨ ∃ r, coreP xs = .ok r ∧ r.2 < xs.length ∧ p = (r.2 : Int) ∧ w = "over" := by
  rw [funs_core] at h
  rcases bindR_err h with h1 | ⟨a, h1, h2⟩
  · exact .inl h1
  · split at h2
    · cases h2; exact .inr ⟨a, h1, by assumption, rfl, rfl⟩
    · cases h2
theorem funs_of_err {xs : List Int} {e : Int × Str} (h : coreP xs = .error e) : funsP xs = .error e := by rw [funs_core]; exact bindR_of_err h
theorem w_oe : ¬ (("over" : Str) = "end") := by decide +kernel
theorem w_od : ¬ (("over" : Str) = "deep") := by decide +kernel
theorem w_or : ¬ (("over" : Str) = "range") := by decide +kernel
/-- of a sheet: cut anywhere it ends too early; with more behind it is over -/
theorem funs_cut {xs : List Int} {r : List (Int × Int) × List Nd} (h : funsP xs = .ok r) {m : Nat} (hm : m < xs.length) : funsP (xs.take m) = .error ((m : Int), ("end" : Str)) := by
  rw [funs_core] at h
  obtain ⟨a, h1, h2⟩ := bindR_ok h
  split at h2
  · cases h2
  · rename_i c
    have e := List.take_append_drop m xs
    have lm : (xs.take m).length = m := by rw [List.length_take]; omega
    refine funs_of_err ?_
    cases g : coreP (xs.take m) with
    | ok b =>
      have := px_core.ok _ (xs.drop m) _ g
      rw [e, h1] at this
      cases this
      have := (px_core.lk _ _ g).2 (Nat.zero_le _)
      rw [lm] at this
      omega
    | error er =>
      obtain ⟨p, w⟩ := er
      by_cases we : w = "end"
      · subst we
        have := (px_core.en _ [] p (Nat.zero_le _) g).1
        rw [this, lm]
      · have := px_core.er _ (xs.drop m) p w g we
        rw [e, h1] at this
        cases this
theorem funs_more {xs zs : List Int} {r : List (Int × Int) × List Nd} (h : funsP xs = .ok r) (hz : zs ≠ []) : funsP (xs ++ zs) = .error ((xs.length : Int), ("over" : Str)) := by
  rw [funs_core] at h
  obtain ⟨a, h1, h2⟩ := bindR_ok h
  split at h2
  · cases h2
  · rename_i c
    have := (px_core.lk _ _ h1).2 (Nat.zero_le _)
    have hl := List.length_pos_iff.mpr hz
    rw [funs_core, bindR_of (px_core.ok _ zs _ h1), if_pos (by rw [List.length_append]; omega)]
    congr 2
    omega
theorem funs_bounds {xs : List Int} {p : Int} {w : Str} (h : funsP xs = .error (p, w)) : 0 ≤ p ∧ p ≤ xs.length ∧ (w = "end" ∨ w = "range" ∨ w = "deep" ∨ w = "over") ∧ (w = "end" → p = xs.length) ∧ (w = "range" ∨ w = "over" → p < xs.length) := by
  rcases funs_err h with g | ⟨r, g, hr, rfl, rfl⟩
  · obtain ⟨a, b, c, d⟩ := px_core.lo xs p w g
    refine ⟨by omega, b (Nat.zero_le _), ?_, ?_, ?_⟩
    · rcases d with d | d | d
      · exact .inl d
      · exact .inr (.inl d)
      · exact .inr (.inr (.inl d))
    · rintro rfl
      exact (px_core.en xs [] p (Nat.zero_le _) g).1
    · rintro (rfl | rfl)
      · exact c rfl
      · rcases d with d | d | d
        · exact absurd d w_oe
        · exact absurd d w_or
        · exact absurd d w_od
  · exact ⟨by omega, by omega, .inr (.inr (.inr rfl)), fun z => absurd z w_oe, fun _ => by omega⟩
/-- a list that is none, cut at that place -/
theorem funs_at {xs : List Int} {p : Nat} {w : Str} (h : funsP xs = .error ((p : Int), w)) : (w = "over" → ∃ r, funsP (xs.take p) = .ok r) ∧ (w = "deep" → funsP (xs.take p) = .error ((p : Int), ("deep" : Str))) ∧ (w ≠ "over" → w ≠ "deep" → funsP (xs.take p) = .error ((p : Int), ("end" : Str))) := by
  have bd := funs_bounds h
  have e := List.take_append_drop p xs
  have lm : (xs.take p).length = p := by rw [List.length_take]; omega
  rcases funs_err h with g | ⟨r, g, hr, hp, rfl⟩
  · have wo : w ≠ "over" := by
      rcases (px_core.lo xs _ w g).2.2.2 with d | d | d <;> rw [d]
      · exact fun z => w_oe z.symm
      · exact fun z => w_or z.symm
      · exact fun z => w_od z.symm
    refine ⟨fun z => absurd z wo, fun hd => funs_of_err ?_, fun _ hd => funs_of_err ?_⟩
    · subst hd
      cases g2 : coreP (xs.take p) with
      | ok b =>
        have := px_core.ok _ (xs.drop p) _ g2
        rw [e, g] at this
        cases this
      | error er =>
        obtain ⟨p', w'⟩ := er
        by_cases we : w' = "end"
        · subst we
          obtain ⟨c1, c2, _⟩ := px_core.en _ (xs.drop p) p' (Nat.zero_le _) g2
          rw [e] at c2
          have := (c2 _ _ g).2 rfl
          rw [c1, lm] at this
          omega
        · have := px_core.er _ (xs.drop p) p' w' g2 we
          rw [e, g] at this
          cases this
          rfl
    · cases g2 : coreP (xs.take p) with
      | ok b =>
        have := px_core.ok _ (xs.drop p) _ g2
        rw [e, g] at this
        cases this
      | error er =>
        obtain ⟨p', w'⟩ := er
        by_cases we : w' = "end"
        · subst we
          have := (px_core.en _ [] p' (Nat.zero_le _) g2).1
          rw [this, lm]
        · have g3 := px_core.er _ (xs.drop p) p' w' g2 we
          rw [e, g] at g3
          cases g3
          rcases (px_core.lo _ _ _ g2).2.2.2 with d | d | d
          · exact absurd d we
          · have := (px_core.lo _ _ _ g2).2.2.1 d
            rw [lm] at this
            omega
          · exact absurd d hd
  · have hp' : p = r.2 := by omega
    subst hp'
    refine ⟨fun _ => ?_, fun z => absurd z w_od, fun z => absurd rfl z⟩
    cases g2 : coreP (xs.take r.2) with
    | ok b =>
      have g3 := px_core.ok _ (xs.drop r.2) _ g2
      rw [e, g] at g3
      cases g3
      exact ⟨r.1, by rw [funs_core, bindR_of g2, if_neg (by rw [lm]; omega)]⟩
    | error er =>
      obtain ⟨p', w'⟩ := er
      by_cases we : w' = "end"
      · subst we
        obtain ⟨c1, _, c3⟩ := px_core.en _ (xs.drop r.2) p' (Nat.zero_le _) g2
        rw [e] at c3
        have := c3 _ g
        rw [c1, lm] at this
        omega
      · have := px_core.er _ (xs.drop r.2) p' w' g2 we
        rw [e, g] at this
        cases this
theorem funs_end {xs zs : List Int} {p : Int} (h : funsP xs = .error (p, "end")) : (∃ r, funsP (xs ++ zs) = .ok r) ∨ ∃ p' w', funsP (xs ++ zs) = .error (p', w') ∧ p ≤ p' := by
  rcases funs_err h with g | ⟨r, g, hr, hp, hw⟩
  · obtain ⟨c1, c2, c3⟩ := px_core.en _ zs p (Nat.zero_le _) g
    cases g2 : funsP (xs ++ zs) with
    | ok r => exact .inl ⟨r, rfl⟩
    | error er =>
      obtain ⟨p', w'⟩ := er
      refine .inr ⟨p', w', rfl, ?_⟩
      rcases funs_err g2 with g3 | ⟨r, g3, _, rfl, _⟩
      · exact (c2 _ _ g3).1
      · have := c3 _ g3
        omega
  · exact absurd hw fun z => w_oe z.symm
theorem funs_behind {xs zs : List Int} {p : Nat} {w : Str} (h : funsP xs = .error ((p : Int), w)) (hw : w ≠ "end") : funsP (xs.take (p + 1) ++ zs) = .error ((p : Int), w) := by
  have bd := funs_bounds h
  have e := List.take_append_drop (p + 1) xs
  rcases funs_err h with g | ⟨r, g, hr, hp, rfl⟩
  · refine funs_of_err (px_core.er _ zs _ w ?_ hw)
    cases g2 : coreP (xs.take (p + 1)) with
    | ok b =>
      have := px_core.ok _ (xs.drop (p + 1)) _ g2
      rw [e, g] at this
      cases this
    | error er =>
      obtain ⟨p', w'⟩ := er
      by_cases we : w' = "end"
      · subst we
        obtain ⟨c1, c2, _⟩ := px_core.en _ (xs.drop (p + 1)) p' (Nat.zero_le _) g2
        rw [e] at c2
        have c4 := c2 _ _ g
        rw [c1, List.length_take] at c4
        by_cases wd : w = "deep"
        · have := c4.2 wd
          omega
        · have : w = "range" := by
            rcases (px_core.lo xs _ w g).2.2.2 with d | d | d
            · exact absurd d hw
            · exact d
            · exact absurd d wd
          have := bd.2.2.2.2 (.inl this)
          omega
      · have := px_core.er _ (xs.drop (p + 1)) p' w' g2 we
        rw [e, g] at this
        cases this
        rfl
  · have hp' : p = r.2 := by omega
    subst hp'
    have lm : (xs.take (r.2 + 1)).length = r.2 + 1 := by rw [List.length_take]; omega
    cases g2 : coreP (xs.take (r.2 + 1)) with
    | ok b =>
      have g3 := px_core.ok _ (xs.drop (r.2 + 1)) _ g2
      rw [e, g] at g3
      cases g3
      rw [funs_core, bindR_of (px_core.ok _ zs _ g2), if_pos (by rw [List.length_append, lm]; omega)]
    | error er =>
      obtain ⟨p', w'⟩ := er
      by_cases we : w' = "end"
      · subst we
        obtain ⟨c1, _, c3⟩ := px_core.en _ (xs.drop (r.2 + 1)) p' (Nat.zero_le _) g2
        rw [e] at c3
        have := c3 _ g
        rw [c1, lm] at this
        omega
      · have := px_core.er _ (xs.drop (r.2 + 1)) p' w' g2 we
        rw [e, g] at this
        cases this

/-! ### the parts by their places -/
theorem partsP_get {f : Nat → Rz (Nd × Nat)} {k i : Nat} {r : List Nd × Nat} {b : Nd × Nat} (er : partsP f i k = .ok r) (eb : f r.2 = .ok b) : ∀ {m : Nat} {R : List Nd × Nat}, partsP f m k = .ok R → i < m → R.1[i]? = some b.1
  | 0, R, _, h => by omega
  | m + 1, R, hR, hm => by
    obtain ⟨A, hA⟩ := partsP_pre hR (i := m) (by omega)
    obtain ⟨B, hB, rfl⟩ := partsP_step hR hA
    have lA := partsP_len hA
    by_cases c : i < m
    · show (A.1 ++ [B.1])[i]? = _
      rw [List.getElem?_append_left (by omega)]
      exact partsP_get er eb hA c
    · have : i = m := by omega
      subst this
      rw [er] at hA
      cases hA
      rw [eb] at hB
      cases hB
      show (r.1 ++ [b.1])[i]? = _
      rw [List.getElem?_append_right (by omega), lA]
      simp
theorem bodiesP_get {xs : List Int} {hs : List (Int × Int)} {k i : Nat} {r : List Nd × Nat} {b : Nd × Nat} (er : bodiesP xs hs i k = .ok r) (eb : nodeP xs hs (hs.getD i (0, 0)).2 10 r.2 = .ok b) : ∀ {m : Nat} {R : List Nd × Nat}, bodiesP xs hs m k = .ok R → i < m → R.1[i]? = some b.1
  | 0, R, _, h => by omega
  | m + 1, R, hR, hm => by
    obtain ⟨A, hA⟩ := bodiesP_pre hR (i := m) (by omega)
    obtain ⟨B, hB, rfl⟩ := bodiesP_step hR hA
    have lA := bodiesP_len hA
    by_cases c : i < m
    · show (A.1 ++ [B.1])[i]? = _
      rw [List.getElem?_append_left (by omega)]
      exact bodiesP_get er eb hA c
    · have : i = m := by omega
      subst this
      rw [er] at hA
      cases hA
      rw [eb] at hB
      cases hB
      show (r.1 ++ [b.1])[i]? = _
      rw [List.getElem?_append_right (by omega), lA]
      simp
theorem FunsAt.nodes {H : Hp} : ∀ {hs : List (Int × Int)} {bs : List Nd} {vs : List V} {i : Nat} {v : V}, FunsAt H hs bs vs → vs[i]? = some v → ∃ t vb h b, v = .ref t ∧ bs[i]? = some b ∧ H t = some (.tup [.int h, .int (hs.getD i (0, 0)).2, vb]) ∧ NodeAt H b vb := by
  intro hs bs vs i v h e
  obtain ⟨t, vb, hh, b, e1, e2, e3, e4, e5⟩ := h.get e
  exact ⟨t, vb, hh.1, b, e1, e3, by rw [List.getD_eq_getElem?_getD, e2]; exact e4, e5⟩

/-! ### nodes one behind another -/
mutual
def pre : Nd → List Nd
  | .mk k p ns ps => .mk k p ns ps :: pres ps
def pres : List Nd → List Nd
  | [] => []
  | n :: ns => pre n ++ pres ns
end
theorem pres_app : ∀ a b : List Nd, pres (a ++ b) = pres a ++ pres b
  | [], b => rfl
  | x :: a, b => by show pre x ++ pres (a ++ b) = _; rw [pres_app a b, ← List.append_assoc]; rfl
theorem pres_one (n : Nd) : pres [n] = pre n := by simp [pres]
theorem pre_pos : ∀ n : Nd, 1 ≤ (pre n).length
  | .mk _ _ _ _ => by simp [pre]
theorem pres_ge : ∀ l : List Nd, l.length ≤ (pres l).length
  | [] => Nat.zero_le _
  | n :: l => by
    have a := pre_pos n
    have b := pres_ge l
    show l.length + 1 ≤ (pre n ++ pres l).length
    rw [List.length_append]
    omega
/-- what covers the sheet from k to k' -/
def Cov (xs : List Int) : Nat → List Nd → Nat → Prop
  | k, [], k' => k = k'
  | k, n :: ns, k' => n.place = (k : Int) ∧ (xs.drop k).take (1 + n.nums.length) = n.kind :: n.nums ∧ k + 1 + n.nums.length ≤ xs.length ∧ Cov xs (k + 1 + n.nums.length) ns k'
theorem Cov.app {xs : List Int} : ∀ {a b : List Nd} {k m k' : Nat}, Cov xs k a m → Cov xs m b k' → Cov xs k (a ++ b) k'
  | [], _, _, _, _, h, g => by rw [show _ = _ from h]; exact g
  | _ :: _, _, _, _, _, ⟨h1, h2, h3, h4⟩, g => ⟨h1, h2, h3, Cov.app h4 g⟩
theorem Cov.len {xs : List Int} : ∀ {a : List Nd} {k k' : Nat}, Cov xs k a k' → k + a.length ≤ k'
  | [], _, _, h => by rw [show _ = _ from h]; exact Nat.le_refl _
  | _ :: a, k, k', ⟨_, _, _, h4⟩ => by have := Cov.len h4; rw [List.length_cons]; omega
theorem parts_cov {xs : List Int} {f : Nat → Rz (Nd × Nat)} (hf : ∀ j r, f j = .ok r → Cov xs j (pre r.1) r.2) {k : Nat} : ∀ {m : Nat} {r : List Nd × Nat}, partsP f m k = .ok r → Cov xs k (pres r.1) r.2
  | 0, r, h => by cases h; exact rfl
  | m + 1, r, h => by
    obtain ⟨a, h1, h2⟩ := bindR_ok h
    obtain ⟨b, h3, h4⟩ := bindR_ok h2
    cases h4
    show Cov xs k (pres (a.1 ++ [b.1])) b.2
    rw [pres_app, pres_one]
    exact (parts_cov hf h1).app (hf _ _ h3)
theorem node_cov {xs : List Int} {hs : List (Int × Int)} {bx : Int} : ∀ {f k : Nat} {r : Nd × Nat}, nodeP xs hs bx f k = .ok r → Cov xs k (pre r.1) r.2
  | 0, k, r, h => by unfold nodeP at h; cases h
  | f + 1, k, r, h => by
    obtain ⟨kind, o, p, h1, h2, h3, h4, h5, rfl⟩ := nodeP_ok h
    have hk := List.getElem?_eq_some_iff.mp h1
    have hk1 := hk.1
    have hl := ownP_le h4
    have hc := ownP_cut h4
    have := parts_cov (fun j r => node_cov (f := f) (k := j) (r := r)) h5
    refine ⟨rfl, ?_, ?_, ?_⟩
    · show (xs.drop k).take (1 + o.1.length) = kind :: o.1
      rw [List.drop_eq_getElem_cons hk.1, hk.2, Nat.add_comm, List.take_succ_cons, hc.1]
    · show k + 1 + o.1.length ≤ xs.length
      omega
    · show Cov xs (k + 1 + o.1.length) (pres p.1) p.2
      rw [← hl.1]
      exact this
theorem bodies_cov {xs : List Int} {hs : List (Int × Int)} {k : Nat} : ∀ {m : Nat} {r : List Nd × Nat}, bodiesP xs hs m k = .ok r → Cov xs k (pres r.1) r.2
  | 0, r, h => by cases h; exact rfl
  | m + 1, r, h => by
    obtain ⟨a, h1, h2⟩ := bindR_ok h
    obtain ⟨b, h3, h4⟩ := bindR_ok h2
    cases h4
    show Cov xs k (pres (a.1 ++ [b.1])) b.2
    rw [pres_app, pres_one]
    exact (bodies_cov h1).app (node_cov h3)
theorem funs_cov {xs : List Int} {hs : List (Int × Int)} {bs : List Nd} (h : funsP xs = .ok (hs, bs)) : Cov xs (1 + 2 * hs.length) (pres bs) xs.length := by
  obtain ⟨k, h1, h2, h3⟩ := funsP_ok h
  have := bodies_cov h2
  have e : k = xs.length := by have := funsP_len h1 h2; omega
  rw [e] at this
  exact this
theorem NodesAt.append {H : Hp} : ∀ {a b : List Nd} {vs ws : List V}, NodesAt H a vs → NodesAt H b ws → NodesAt H (a ++ b) (vs ++ ws)
  | [], _, vs, _, h, g => by rw [show vs = [] from h]; exact g
  | _ :: _, _, _, _, ⟨v, r, e, h1, h2⟩, g => by rw [e]; exact ⟨v, r ++ _, rfl, h1, NodesAt.append h2 g⟩
theorem NodesAt.last {H : Hp} : ∀ {a : List Nd} {n : Nd} {vs : List V}, NodesAt H (a ++ [n]) vs → ∃ ws v, vs = ws ++ [v] ∧ NodesAt H a ws ∧ NodeAt H n v
  | [], _, _, ⟨v, r, e, h1, h2⟩ => ⟨[], v, by rw [e, show r = [] from h2]; rfl, rfl, h1⟩
  | _ :: _, _, _, ⟨v, r, e, h1, h2⟩ => by
    obtain ⟨ws, w, e2, h3, h4⟩ := NodesAt.last h2
    exact ⟨v :: ws, w, by rw [e, e2]; rfl, ⟨v, ws, rfl, h1, h3⟩, h4⟩
theorem NodesAt.rev {H : Hp} : ∀ {a : List Nd} {vs : List V}, NodesAt H a vs → NodesAt H a.reverse vs.reverse
  | [], vs, h => by rw [show vs = [] from h]; exact rfl
  | _ :: _, _, ⟨v, r, e, h1, h2⟩ => by
    rw [e, List.reverse_cons, List.reverse_cons]
    exact (NodesAt.rev h2).app h1
mutual
theorem pre_good {xs : List Int} {hs : List (Int × Int)} : ∀ {n : Nd}, (∃ bx f j j', f ≤ 10 ∧ nodeP xs hs bx f j = .ok (n, j')) → ∀ m ∈ pre n, ∃ bx f j j', f ≤ 10 ∧ nodeP xs hs bx f j = .ok (m, j')
  | .mk k p ns ps, h, m, hm => by
    rcases List.mem_cons.mp (show m ∈ .mk k p ns ps :: pres ps from hm) with e | hm2
    · rw [e]; exact h
    · obtain ⟨bx, f, j, j', hf, h⟩ := h
      obtain ⟨f, rfl⟩ : ∃ g, f = g + 1 := ⟨f - 1, by have := nodeP_dep h; omega⟩
      obtain ⟨kind, o, pp, e1, k0, k1, eo, ep, en⟩ := nodeP_ok h
      cases en
      exact pres_good (fun n hn => by
        obtain ⟨a1, a2, a3⟩ := partsP_mem ep n hn
        exact ⟨bx, f, a1, a2, by omega, a3⟩) m hm2
theorem pres_good {xs : List Int} {hs : List (Int × Int)} : ∀ {l : List Nd}, (∀ n ∈ l, ∃ bx f j j', f ≤ 10 ∧ nodeP xs hs bx f j = .ok (n, j')) → ∀ m ∈ pres l, ∃ bx f j j', f ≤ 10 ∧ nodeP xs hs bx f j = .ok (m, j')
  | [], _, m, hm => by cases hm
  | n :: l, h, m, hm => by
    rcases List.mem_append.mp (show m ∈ pre n ++ pres l from hm) with z | z
    · exact pre_good (h n List.mem_cons_self) m z
    · exact pres_good (fun x hx => h x (List.mem_cons_of_mem _ hx)) m z
end
def q_nodes_in (Z : Adr) (n : Nat) (a : V) (H : Hp) (Q : VK) (E : XK) : Prop := ∃ (xs : List Int) (hs : List (Int × Int)) (bx : Int) (k f : Nat) (r : Nd × Nat), nodeP xs hs bx f k = .ok r ∧ NodeAt H r.1 a ∧ f ≤ n ∧ xs.length ≤ 300000 ∧
  ∀ l vs H', Same H H' → H l = none → H' l = some (.lst vs) → NodesAt H' (pre r.1) vs → Q (.ref l) H'
theorem no_nodes_in {Z : Adr} {a : V} {H : Hp} {Q : VK} {E : XK} : ¬ q_nodes_in Z 0 a H Q E := fun ⟨xs, hs, bx, k, f, r, e, _, hf, _⟩ => by
  have := nodeP_dep e
  omega

def errD (er : Int × Str) : PyData := .tuple [.int er.1, .str er.2]
theorem err_dp {K : PySem.W.Frag} {H : Hp} {t : Addr} {k : Int} {w : Str} (h : H t = some (.tup [.int k, .str w])) : Dp K H (.ref t) (errD (k, w)) := .tup (SqT.of h) (.cons (.int _) (.cons (.str _) .nil))
theorem err_sh {k : Int} {w : Str} (h : w = "end" ∨ w = "range" ∨ w = "deep" ∨ w = "over") : Sh 1 (errD (k, w)) := Sh.tup fun d hd => by
  simp only [List.mem_cons, List.not_mem_nil, or_false] at hd
  rcases hd with e | e
  · rw [e]; exact Sh.int _
  · rw [e]; refine Sh.str ?_; rcases h with h | h | h | h <;> rw [h] <;> decide +kernel

/-! ### bent sheets -/
theorem ix_nat {n j : Nat} (h : j < n) : ixN n (j : Int) = some j := by
  unfold ixN
  rw [if_pos (by omega), if_pos (by omega)]
  simp
theorem St3.nei {K : PySem.W.Frag} {H : Hp} {p a : Addr} {zs : List Int} (h : St3 K H p) (ha : H a = some (.lst (zs.map V.int))) : a ≠ p := by
  obtain ⟨sa, ns, k, l, _, _, _, hp⟩ := h
  intro e
  subst e
  rw [hp] at ha
  match zs, ha with
  | [], ha => cases ha
  | z :: zs, ha => cases ha
def IntLs (H : Hp) (vs : List V) : Prop := ∀ v ∈ vs, ∃ a zs, v = .ref a ∧ H a = some (.lst ((zs : List Int).map V.int)) ∧ zs.length ≤ 3
theorem IntLs.mono {H H' : Hp} {vs : List V} (S : Same H H') (h : IntLs H vs) : IntLs H' vs := fun v hv => by
  obtain ⟨a, zs, e, ha, hz⟩ := h v hv
  exact ⟨a, zs, e, S _ _ ha, hz⟩
def q_Lbent (Z : Adr) (a b : V) (H : Hp) (Q : VK) (E : XK) : Prop := ∃ (p l : Addr) (xs : List Int), a = .ref p ∧ b = .ref l ∧ St3 Z.K H p ∧ H l = some (.lst (xs.map V.int)) ∧ xs.length ≤ 100000 ∧
  ∀ (m : Addr) (ys : List Int) H', St3 Z.K H' p → But p H H' → H m = none → H' m = some (.lst (ys.map V.int)) → ys.length ≤ 100100 → Q (.ref m) H'

def q_nodes (Z : Adr) (a : V) (H : Hp) (Q : VK) (E : XK) : Prop := ∃ ls xs, a = .ref ls ∧ SqL Z.K H ls (xs.map V.int) ∧ xs.length ≤ 300000 ∧ (∀ hs bs, funsP xs = .ok (hs, bs) → ∀ l vs H', Same H H' → H l = none → H' l = some (.lst vs) → NodesAt H' (pres bs) vs → Q (.ref l) H') ∧
  ∀ er, funsP xs = .error er → ∀ d H', Same H H' → XdAt H' d er → E (.ref Z.c_NoSheet) (some d) H'
/-! ### a list gone through with nodes that wait -/
def waitP (xs : List Int) (hs : List (Int × Int)) : List (Nat × Int) → Nat → Rz Nat
  | [], k => .ok k
  | p :: r, k => bindR (nodeP xs hs p.2 p.1 k) fun a => waitP xs hs r a.2
theorem wait_rep {xs : List Int} {hs : List (Int × Int)} {f : Nat} {bx : Int} {k : Nat} : ∀ (m : Nat) (r : List (Nat × Int)), waitP xs hs (List.replicate m (f, bx) ++ r) k = bindR (partsP (nodeP xs hs bx f) m k) fun p => waitP xs hs r p.2
  | 0, r => rfl
  | m + 1, r => by
    rw [List.replicate_succ', List.append_assoc, wait_rep m ([(f, bx)] ++ r)]
    show _ = bindR (bindR (partsP (nodeP xs hs bx f) m k) _) _
    cases partsP (nodeP xs hs bx f) m k with
    | error e => rfl
    | ok a =>
      show bindR (nodeP xs hs bx f a.2) _ = bindR (bindR (nodeP xs hs bx f a.2) _) _
      cases nodeP xs hs bx f a.2 with
      | error e => rfl
      | ok b => rfl
theorem wait_bodies {xs : List Int} {hs : List (Int × Int)} {k : Nat} : ∀ (i : Nat) (r : List (Nat × Int)), i ≤ hs.length → waitP xs hs ((hs.take i).map (fun h => (10, h.2)) ++ r) k = bindR (bodiesP xs hs i k) fun a => waitP xs hs r a.2
  | 0, r, _ => by rw [List.take_zero]; rfl
  | i + 1, r, hi => by
    have ed : hs.getD i (0, 0) = hs[i] := by rw [List.getD_eq_getElem?_getD, List.getElem?_eq_getElem hi]; rfl
    rw [List.take_succ_eq_append_getElem hi, List.map_append, List.append_assoc, wait_bodies i _ (by omega)]
    show _ = bindR (bindR (bodiesP xs hs i k) _) _
    cases bodiesP xs hs i k with
    | error e => rfl
    | ok a =>
      show bindR (nodeP xs hs (hs[i]).2 10 a.2) _ = bindR (bindR (nodeP xs hs (hs.getD i (0, 0)).2 10 a.2) _) _
      rw [ed]
      cases nodeP xs hs (hs[i]).2 10 a.2 with
      | error e => rfl
      | ok b => rfl
theorem wait_funs {xs : List Int} {hs : List (Int × Int)} (h : headsP xs = .ok hs) : (∀ k, waitP xs hs (hs.map fun h => (10, h.2)) (1 + 2 * hs.length) = .ok k → if k < xs.length then funsP xs = .error (k, "over") else ∃ r, funsP xs = .ok r) ∧
    ∀ er, waitP xs hs (hs.map fun h => (10, h.2)) (1 + 2 * hs.length) = .error er → funsP xs = .error er := by
  have e := wait_bodies (xs := xs) (k := 1 + 2 * hs.length) hs.length [] (Nat.le_refl _)
  rw [List.take_length, List.append_nil] at e
  have ef : funsP xs = bindR (bodiesP xs hs hs.length (1 + 2 * hs.length)) fun a => if a.2 < xs.length then .error (a.2, "over") else .ok (hs, a.1) := by unfold funsP; rw [bindR_of h]
  rw [e, ef]
  cases bodiesP xs hs hs.length (1 + 2 * hs.length) with
  | error e =>
    refine ⟨fun k z => (by cases z), fun er z => ?_⟩
    cases z; rfl
  | ok a =>
    refine ⟨fun k z => ?_, fun er z => (by cases z)⟩
    cases z
    show if a.2 < xs.length then (if a.2 < xs.length then Except.error ((a.2 : Int), ("over" : Str)) else Except.ok (hs, a.1)) = Except.error ((a.2 : Int), ("over" : Str)) else ∃ r, (if a.2 < xs.length then Except.error ((a.2 : Int), ("over" : Str)) else Except.ok (hs, a.1)) = Except.ok r
    split
    · rfl
    · exact ⟨_, rfl⟩
/-- one step -/
theorem wait_step {xs : List Int} {hs : List (Int × Int)} {f : Nat} {bx : Int} {r : List (Nat × Int)} {k : Nat} : waitP xs hs ((f + 1, bx) :: r) k = bindR (withinP xs k 0 19) fun kind => bindR (ownP xs hs bx kind (k + 1)) fun o => waitP xs hs (List.replicate o.2.1.toNat (f, bx) ++ r) o.2.2 := by
  show bindR (bindR (withinP xs k 0 19) _) _ = _
  cases withinP xs k 0 19 with
  | error e => rfl
  | ok kind =>
    show bindR (bindR (ownP xs hs bx kind (k + 1)) _) _ = bindR (ownP xs hs bx kind (k + 1)) _
    cases ownP xs hs bx kind (k + 1) with
    | error e => rfl
    | ok o =>
      show bindR (bindR (partsP (nodeP xs hs bx f) o.2.1.toNat o.2.2) _) _ = waitP xs hs (List.replicate o.2.1.toNat (f, bx) ++ r) o.2.2
      rw [wait_rep]
      cases partsP (nodeP xs hs bx f) o.2.1.toNat o.2.2 with
      | error e => rfl
      | ok p => rfl
/-- the own number of a kind that has one -/
def OwnK (k : Int) : Prop := k = 0 ∨ k = 1 ∨ k = 2 ∨ k = 3 ∨ k = 4 ∨ k = 6
def lowK (k : Int) : Int := if k = 3 ∨ k = 4 then k - 2 else 0
def highK (xs : List Int) (bx k : Int) : Int := if k = 1 ∨ k = 2 then bx - 1 else if k = 3 ∨ k = 4 then 12 else xs.getD 0 0 - 1
def manyK (xs : List Int) (k v : Int) : Int := if k = 3 then v else if k = 4 then v + 1 else if k = 6 then xs.getD (1 + 2 * v).toNat 0 else if k = 0 ∨ k = 1 then 0 else if k = 2 then 1 else if k = 5 then 2 else manyP k
theorem own_k {xs : List Int} {hs : List (Int × Int)} {bx kind : Int} {k : Nat} (h : headsP xs = .ok hs) (k0 : 0 ≤ kind) (k1 : kind ≤ 19) :
    (¬ OwnK kind → ownP xs hs bx kind k = .ok ([], manyK xs kind 0, k)) ∧ (OwnK kind → xs.length ≤ k → ownP xs hs bx kind k = .error (k, "end")) ∧
    (OwnK kind → ∀ v, xs[k]? = some v → (kind = 0 ∨ lowK kind ≤ v ∧ v ≤ highK xs bx kind → ownP xs hs bx kind k = .ok ([v], manyK xs kind v, k + 1)) ∧ (kind ≠ 0 → ¬ (lowK kind ≤ v ∧ v ≤ highK xs bx kind) → ownP xs hs bx kind k = .error (k, "range"))) := by
  obtain ⟨n1, n2, e0, eL⟩ := headsP_ok h
  have e00 : xs.getD 0 0 = (hs.length : Int) := by rw [List.getD_eq_getElem?_getD, e0]; rfl
  have due : xs.length ≤ k → dueP xs k = .error (k, "end") := fun z => by unfold dueP; rw [List.getElem?_eq_none z]
  have wout : ∀ {lo hi : Int}, xs.length ≤ k → withinP xs k lo hi = .error (k, "end") := fun z => by unfold withinP; exact bindR_of_err (due z)
  have wno : ∀ {lo hi v : Int}, xs[k]? = some v → ¬ (lo ≤ v ∧ v ≤ hi) → withinP xs k lo hi = .error (k, "range") := fun z c => by unfold withinP; rw [bindR_of (dueP_of z), if_neg c]
  refine ⟨fun c => ?_, fun c z => ?_, fun c v ev => ⟨fun b => ?_, fun c0 b => ?_⟩⟩
  · unfold OwnK at c
    unfold ownP manyK
    simp only [show ¬ kind = 0 by omega, show ¬ kind = 1 by omega, show ¬ kind = 2 by omega, show ¬ kind = 3 by omega, show ¬ kind = 4 by omega, show ¬ kind = 6 by omega, if_false, or_self]
    by_cases c5 : kind = 5
    · rw [if_pos c5, if_pos c5]
    · rw [if_neg c5, if_neg c5]
  · unfold ownP
    rcases c with rfl | rfl | rfl | rfl | rfl | rfl
    · rw [if_pos rfl]; exact bindR_of_err (due z)
    all_goals
      simp only [show ¬ ((1 : Int) = 0) by decide, show ¬ ((2 : Int) = 0) by decide, show ¬ ((2 : Int) = 1) by decide, show ¬ ((3 : Int) = 0) by decide, show ¬ ((3 : Int) = 1) by decide, show ¬ ((3 : Int) = 2) by decide, show ¬ ((4 : Int) = 0) by decide, show ¬ ((4 : Int) = 1) by decide, show ¬ ((4 : Int) = 2) by decide, show ¬ ((4 : Int) = 3) by decide, show ¬ ((6 : Int) = 0) by decide, show ¬ ((6 : Int) = 1) by decide, show ¬ ((6 : Int) = 2) by decide, show ¬ ((6 : Int) = 3) by decide, show ¬ ((6 : Int) = 4) by decide, if_false, if_true]
      exact bindR_of_err (wout z)
  · unfold ownP manyK
    unfold lowK highK at b
    rcases c with rfl | rfl | rfl | rfl | rfl | rfl
    · simp only [if_true, bindR_of (dueP_of ev)]; rfl
    · simp at b; simp [bindR_of (withinP_of ev b.1 (show v ≤ bx - 1 by omega))]
    · simp at b; simp [bindR_of (withinP_of ev b.1 (show v ≤ bx - 1 by omega))]
    · simp at b; simp [bindR_of (withinP_of ev b.1 b.2)]
    · simp at b; simp [bindR_of (withinP_of ev b.1 b.2)]
    · simp [e0] at b
      have hv : v.toNat < hs.length := by omega
      have ha := (heads_at eL (List.getElem?_eq_getElem hv)).1
      have e1 : (hs.getD v.toNat (0, 0)).1 = xs.getD (1 + 2 * v).toNat 0 := by
        rw [List.getD_eq_getElem?_getD, List.getElem?_eq_getElem hv, List.getD_eq_getElem?_getD, show (1 + 2 * v).toNat = 1 + 2 * v.toNat by omega, ha]; rfl
      have w := withinP_of (hi := (hs.length : Int) - 1) ev b.1 b.2
      simp only [show ¬ ((6 : Int) = 0) by decide, show ¬ ((6 : Int) = 1) by decide, show ¬ ((6 : Int) = 2) by decide, show ¬ ((6 : Int) = 3) by decide, show ¬ ((6 : Int) = 4) by decide, if_false, if_true, bindR_of w, e1]
  · unfold ownP
    unfold lowK highK at b
    rcases c with rfl | rfl | rfl | rfl | rfl | rfl
    · exact absurd rfl c0
    · simp at b; simp; exact bindR_of_err (wno ev (by omega))
    · simp at b; simp; exact bindR_of_err (wno ev (by omega))
    · simp at b; simp; exact bindR_of_err (wno ev (by omega))
    · simp at b; simp; exact bindR_of_err (wno ev (by omega))
    · simp [e0] at b; simp; exact bindR_of_err (wno ev (by omega))
def q_Lown (Z : Adr) (a b c : V) (H : Hp) (Q : VK) (E : XK) : Prop := ∃ (ls : Addr) (xs : List Int) (k : Nat) (bx kind : Int), a = .ref ls ∧ SqL Z.K H ls (xs.map V.int) ∧ xs.length ≤ 300000 ∧ 1 ≤ xs.length ∧ b = .int k ∧ c = .int bx ∧ xs[k]? = some kind ∧ ∀ t H', Same H H' → H' t = some (.tup [.int (lowK kind), .int (highK xs bx kind)]) → Q (.ref t) H'
def q_Lparts (Z : Adr) (a b : V) (H : Hp) (Q : VK) (E : XK) : Prop := ∃ (ls : Addr) (xs : List Int) (k : Nat) (kind v : Int), a = .ref ls ∧ SqL Z.K H ls (xs.map V.int) ∧ b = .int k ∧ xs[k]? = some kind ∧ 0 ≤ kind ∧ kind ≤ 19 ∧ (OwnK kind → xs[k + 1]? = some v) ∧ (kind = 6 → 0 ≤ v ∧ (1 + 2 * v).toNat < xs.length) ∧ ∀ H', Same H H' → Q (.int (manyK xs kind v)) H'
def q_Lhead_wrong (Z : Adr) (a : V) (H : Hp) (Q : VK) (E : XK) : Prop := ∃ (ls : Addr) (xs : List Int), a = .ref ls ∧ SqL Z.K H ls (xs.map V.int) ∧ (∀ hs, headsP xs = .ok hs → ∀ H', Same H H' → Q .non H') ∧ ∀ er, headsP xs = .error er → ∀ t H', Same H H' → H' t = some (.tup [.int er.1, .str er.2]) → Q (.ref t) H'
def q_Lwrong (Z : Adr) (a : V) (H : Hp) (Q : VK) (E : XK) : Prop := ∃ (ls : Addr) (xs : List Int), a = .ref ls ∧ H ls = some (.lst (xs.map V.int)) ∧ xs.length ≤ 300000 ∧ (∀ r, funsP xs = .ok r → ∀ H', Same H H' → Q .non H') ∧ ∀ er, funsP xs = .error er → ∀ t H', Same H H' → H' t = some (.tup [.int er.1, .str er.2]) → Q (.ref t) H'
def hv (xs : List Int) : V × V := match funsP xs with
  | .ok _ => (.non, .non)
  | .error er => (.int er.1, .str er.2)
def hvD (xs : List Int) : PyData × PyData := match funsP xs with
  | .ok _ => (.none, .none)
  | .error er => (.int er.1, .str er.2)
theorem hv_dp {K : PySem.W.Frag} {H : Hp} {xs : List Int} : Dp K H (hv xs).1 (hvD xs).1 ∧ Dp K H (hv xs).2 (hvD xs).2 := by
  unfold hv hvD
  cases funsP xs with
  | ok r => exact ⟨.non, .non⟩
  | error er => exact ⟨.int _, .str _⟩
theorem hv_sh {xs : List Int} : Sh 64 (.list [.bool true, (hvD xs).1, (hvD xs).2]) := by
  refine (Sh.list (n := 0) fun d hd => ?_).mono (by omega)
  simp only [List.mem_cons, List.not_mem_nil, or_false] at hd
  unfold hvD at hd
  cases e : funsP xs with
  | ok r =>
    rw [e] at hd
    rcases hd with z | z | z <;> subst z
    · exact Sh.bl _
    · exact Sh.non
    · exact Sh.non
  | error er =>
    obtain ⟨k, w⟩ := er
    rw [e] at hd
    have bd := (funs_bounds e).2.2.1
    rcases hd with z | z | z <;> subst z
    · exact Sh.bl _
    · exact Sh.int _
    · refine Sh.str ?_
      show PyData.strOk w = true
      rcases bd with h | h | h | h <;> rw [h] <;> decide +kernel
def q_Lheard (Z : Adr) (a b : V) (H : Hp) (Q : VK) (E : XK) : Prop := ∃ (w : Int) (ls : Addr) (xs : List Int), a = .int w ∧ b = .ref ls ∧ SqL Z.K H ls (xs.map V.int) ∧ xs.length ≤ 300000 ∧ ∀ l H', Same H H' → H' l = some (.lst [.bl true, (hv xs).1, (hv xs).2]) → Q (.ref l) H'
def q_Ledge (Z : Adr) (a : V) (H : Hp) (Q : VK) (E : XK) : Prop := ∃ p, a = .ref p ∧ St3 Z.K H p ∧ ∀ (m : Addr) (ys : List Int) H', St3 Z.K H' p → But p H H' → H m = none → H' m = some (.lst (ys.map V.int)) → ys.length ≤ 100 → Q (.ref m) H'
def q_law (Z : Adr) (v : V) (H : Hp) (Q : VK) (E : XK) : Prop := ∃ (a : Addr) (ns : List Int), v = .ref a ∧ Only H ∧ Scr Z.K H a ns ∧ ns.length ≤ 63 ∧ ∀ H', Q (.bl true) H'
/-! ### stacks of nodes that wait -/
theorem Row_last {α : Type} {R : α → V → Prop} {xs : List α} {x : α} {vs : List V} (h : Row R (xs ++ [x]) vs) : ∃ us v, vs = us ++ [v] ∧ Row R xs us ∧ R x v := by
  have hl := h.1
  rw [List.length_append, List.length_singleton] at hl
  have hn : vs ≠ [] := fun z => by rw [z] at hl; simp at hl
  refine ⟨vs.dropLast, vs.getLast hn, (List.dropLast_concat_getLast hn).symm, ⟨by rw [List.length_dropLast]; omega, fun i a b e f => ?_⟩, ?_⟩
  · have hi := (List.getElem?_eq_some_iff.mp e).1
    refine h.2 i a b (by rw [List.getElem?_append_left hi]; exact e) ?_
    rw [List.getElem?_dropLast] at f
    split at f
    · exact f
    · cases f
  · refine h.2 xs.length x _ (by rw [List.getElem?_append_right (Nat.le_refl _), Nat.sub_self]; rfl) ?_
    rw [List.getLast_eq_getElem, List.getElem?_eq_getElem (by omega)]
    congr 2
    omega
theorem Row_rep {α : Type} {R : α → V → Prop} {x : α} {v : V} (h : R x v) (m : Nat) : Row R (List.replicate m x) (List.replicate m v) := ⟨by rw [List.length_replicate, List.length_replicate], fun i a b e f => by
  have e1 := List.mem_of_getElem? e
  have f1 := List.mem_of_getElem? f
  rw [List.eq_of_mem_replicate e1, List.eq_of_mem_replicate f1]; exact h⟩
def WaitI (H : Hp) (p : Nat × Int) (v : V) : Prop := ∃ t, v = .ref t ∧ H t = some (.tup [.int (11 - (p.1 : Int)), .int p.2])
theorem WaitI.mono {H H' : Hp} {p : Nat × Int} {v : V} (S : TupS H H') (h : WaitI H p v) : WaitI H' p v := by
  obtain ⟨t, e, h⟩ := h
  exact ⟨t, e, S _ _ h⟩
theorem s_nt' {A B D : Prop} [Decidable D] (h1 : ¬ D → A) (h2 : D → B) : zIf (!decide D) A B := s_ifn h1 h2
theorem s_rng3 {tA : TA} {σ : L2.St} {H : Hp} {R : It → Hp → Prop} (h : tA σ H fun vs H1 => ∃ (i j c : Int) (n : Nat), vs = [.int i, .int j, .int c] ∧ RgC i j c n ∧ R (Itc i c n) H1) : iRng3 tA σ H R := h
theorem lc_rngC {lo c : Int} {n : Nat} {g : TG} {t : TT} {te : TE} {vs : List Nat} {σ : L2.St} {H : Hp} {Q : VK} (Pv : Addr → Nat → Hp → Prop) (h0 : ∀ D, H D = none → Pv D 0 (upd H D (.lst [])))
    (hs : ∀ D i H', H D = none → i < n → Pv D i H' → g (.int (lo + (i : Nat) * c)) (wipe σ vs) H' fun σ2 H2 => zWipe vs σ σ2 (t σ2 H2 fun k H3 => zIf k (te σ2 H3 fun y H4 => zAcc D y H4 (Pv D (i + 1))) (Pv D (i + 1) H3)))
    (hd : ∀ D H', H D = none → Pv D n H' → Q (.ref D) H') : zLc (Itc lo c n) g t te vs σ H Q := fun D hD =>
  ⟨fun i m H' => i ≤ n ∧ m = n - i ∧ Pv D i H', ⟨n, by omega, by omega, h0 D hD⟩, fun i m H' ⟨hi, hm, hp⟩ => by
    by_cases b : i < n
    · refine .inr ⟨b, Pv D (i + 1), fun H2 hp2 => ⟨n - (i + 1), by omega, by omega, rfl, hp2⟩, fun x H2 e => ?_⟩
      obtain ⟨e1, e2⟩ := e
      subst e1 e2
      exact hs D i _ hD b hp
    · have : i = n := by omega
      subst this
      exact .inl ⟨Nat.le_refl _, hd D H' hD hp⟩⟩

def sp_NoSheet_init (Z : Adr) : Sp := Sp3 (q_NoSheet_init Z)
theorem cl_NoSheet_init {Z : Adr} {a0 a1 a2 : V} {H : Hp} {Q : VK} {E : XK} (h : q_NoSheet_init Z a0 a1 a2 H Q E) : sp_NoSheet_init Z [a0, a1, a2] H Q E := ⟨a0, a1, a2, rfl, h⟩
def sp_parts_of (Z : Adr) : Sp := Sp1 (q_parts_of Z)
theorem cl_parts_of {Z : Adr} {a0 : V} {H : Hp} {Q : VK} {E : XK} (h : q_parts_of Z a0 H Q E) : sp_parts_of Z [a0] H Q E := ⟨a0, rfl, h⟩
def sp_Look_init (Z : Adr) : Sp := Sp2 (q_Look_init Z)
theorem cl_Look_init {Z : Adr} {a0 a1 : V} {H : Hp} {Q : VK} {E : XK} (h : q_Look_init Z a0 a1 H Q E) : sp_Look_init Z [a0, a1] H Q E := ⟨a0, a1, rfl, h⟩
def sp_Look_due (Z : Adr) : Sp := Sp1 (q_Look_due Z)
theorem cl_Look_due {Z : Adr} {a0 : V} {H : Hp} {Q : VK} {E : XK} (h : q_Look_due Z a0 H Q E) : sp_Look_due Z [a0] H Q E := ⟨a0, rfl, h⟩
def sp_Look_within (Z : Adr) : Sp := Sp3 (q_Look_within Z)
theorem cl_Look_within {Z : Adr} {a0 a1 a2 : V} {H : Hp} {Q : VK} {E : XK} (h : q_Look_within Z a0 a1 a2 H Q E) : sp_Look_within Z [a0, a1, a2] H Q E := ⟨a0, a1, a2, rfl, h⟩
def sp_heads_in (Z : Adr) : Sp := Sp1 (q_heads_in Z)
theorem cl_heads_in {Z : Adr} {a0 : V} {H : Hp} {Q : VK} {E : XK} (h : q_heads_in Z a0 H Q E) : sp_heads_in Z [a0] H Q E := ⟨a0, rfl, h⟩
def sp_own_numbers (Z : Adr) : Sp := Sp4 (q_own_numbers Z)
theorem cl_own_numbers {Z : Adr} {a0 a1 a2 a3 : V} {H : Hp} {Q : VK} {E : XK} (h : q_own_numbers Z a0 a1 a2 a3 H Q E) : sp_own_numbers Z [a0, a1, a2, a3] H Q E := ⟨a0, a1, a2, a3, rfl, h⟩
def sp_node_in (Z : Adr) (n : Nat) : Sp := Sp4 (q_node_in Z n)
theorem cl_node_in {Z : Adr} {n : Nat} {a0 a1 a2 a3 : V} {H : Hp} {Q : VK} {E : XK} (h : q_node_in Z n a0 a1 a2 a3 H Q E) : sp_node_in Z n [a0, a1, a2, a3] H Q E := ⟨a0, a1, a2, a3, rfl, h⟩
def sp_functions (Z : Adr) : Sp := Sp1 (q_functions Z)
theorem cl_functions {Z : Adr} {a0 : V} {H : Hp} {Q : VK} {E : XK} (h : q_functions Z a0 H Q E) : sp_functions Z [a0] H Q E := ⟨a0, rfl, h⟩
def sp_wrong (Z : Adr) : Sp := Sp1 (q_wrong Z)
theorem cl_wrong {Z : Adr} {a0 : V} {H : Hp} {Q : VK} {E : XK} (h : q_wrong Z a0 H Q E) : sp_wrong Z [a0] H Q E := ⟨a0, rfl, h⟩
def sp_nodes_in (Z : Adr) (n : Nat) : Sp := Sp1 (q_nodes_in Z n)
theorem cl_nodes_in {Z : Adr} {n : Nat} {a0 : V} {H : Hp} {Q : VK} {E : XK} (h : q_nodes_in Z n a0 H Q E) : sp_nodes_in Z n [a0] H Q E := ⟨a0, rfl, h⟩
def sp_nodes (Z : Adr) : Sp := Sp1 (q_nodes Z)
theorem cl_nodes {Z : Adr} {a0 : V} {H : Hp} {Q : VK} {E : XK} (h : q_nodes Z a0 H Q E) : sp_nodes Z [a0] H Q E := ⟨a0, rfl, h⟩
def sp_Lmixed (Z : Adr) : Sp := Sp2 (q_Lmixed Z)
theorem cl_Lmixed {Z : Adr} {a0 a1 : V} {H : Hp} {Q : VK} {E : XK} (h : q_Lmixed Z a0 a1 H Q E) : sp_Lmixed Z [a0, a1] H Q E := ⟨a0, a1, rfl, h⟩
def sp_Ltake (Z : Adr) : Sp := Sp2 (q_Ltake Z)
theorem cl_Ltake {Z : Adr} {a0 a1 : V} {H : Hp} {Q : VK} {E : XK} (h : q_Ltake Z a0 a1 H Q E) : sp_Ltake Z [a0, a1] H Q E := ⟨a0, a1, rfl, h⟩
def sp_Lheads (Z : Adr) : Sp := Sp1 (q_Lheads Z)
theorem cl_Lheads {Z : Adr} {a0 : V} {H : Hp} {Q : VK} {E : XK} (h : q_Lheads Z a0 H Q E) : sp_Lheads Z [a0] H Q E := ⟨a0, rfl, h⟩
def sp_Lnumber (Z : Adr) : Sp := Sp1 (q_Lnumber Z)
theorem cl_Lnumber {Z : Adr} {a0 : V} {H : Hp} {Q : VK} {E : XK} (h : q_Lnumber Z a0 H Q E) : sp_Lnumber Z [a0] H Q E := ⟨a0, rfl, h⟩
def sp_Lleaf (Z : Adr) : Sp := Sp2 (q_Lleaf Z)
theorem cl_Lleaf {Z : Adr} {a0 a1 : V} {H : Hp} {Q : VK} {E : XK} (h : q_Lleaf Z a0 a1 H Q E) : sp_Lleaf Z [a0, a1] H Q E := ⟨a0, a1, rfl, h⟩
def sp_Lhead (Z : Adr) : Sp := Sp3 (q_Lhead Z)
theorem cl_Lhead {Z : Adr} {a0 a1 a2 : V} {H : Hp} {Q : VK} {E : XK} (h : q_Lhead Z a0 a1 a2 H Q E) : sp_Lhead Z [a0, a1, a2] H Q E := ⟨a0, a1, a2, rfl, h⟩
def sp_Lnode (Z : Adr) (n : Nat) : Sp := Sp5 (q_Lnode Z n)
theorem cl_Lnode {Z : Adr} {n : Nat} {a0 a1 a2 a3 a4 : V} {H : Hp} {Q : VK} {E : XK} (h : q_Lnode Z n a0 a1 a2 a3 a4 H Q E) : sp_Lnode Z n [a0, a1, a2, a3, a4] H Q E := ⟨a0, a1, a2, a3, a4, rfl, h⟩
def sp_Lsheet (Z : Adr) : Sp := Sp2 (q_Lsheet Z)
theorem cl_Lsheet {Z : Adr} {a0 a1 : V} {H : Hp} {Q : VK} {E : XK} (h : q_Lsheet Z a0 a1 H Q E) : sp_Lsheet Z [a0, a1] H Q E := ⟨a0, a1, rfl, h⟩
def sp_Lown (Z : Adr) : Sp := Sp3 (q_Lown Z)
theorem cl_Lown {Z : Adr} {a0 a1 a2 : V} {H : Hp} {Q : VK} {E : XK} (h : q_Lown Z a0 a1 a2 H Q E) : sp_Lown Z [a0, a1, a2] H Q E := ⟨a0, a1, a2, rfl, h⟩
def sp_Lparts (Z : Adr) : Sp := Sp2 (q_Lparts Z)
theorem cl_Lparts {Z : Adr} {a0 a1 : V} {H : Hp} {Q : VK} {E : XK} (h : q_Lparts Z a0 a1 H Q E) : sp_Lparts Z [a0, a1] H Q E := ⟨a0, a1, rfl, h⟩
def sp_Lhead_wrong (Z : Adr) : Sp := Sp1 (q_Lhead_wrong Z)
theorem cl_Lhead_wrong {Z : Adr} {a0 : V} {H : Hp} {Q : VK} {E : XK} (h : q_Lhead_wrong Z a0 H Q E) : sp_Lhead_wrong Z [a0] H Q E := ⟨a0, rfl, h⟩
def sp_Lwrong (Z : Adr) : Sp := Sp1 (q_Lwrong Z)
theorem cl_Lwrong {Z : Adr} {a0 : V} {H : Hp} {Q : VK} {E : XK} (h : q_Lwrong Z a0 H Q E) : sp_Lwrong Z [a0] H Q E := ⟨a0, rfl, h⟩
def sp_Lbent (Z : Adr) : Sp := Sp2 (q_Lbent Z)
theorem cl_Lbent {Z : Adr} {a0 a1 : V} {H : Hp} {Q : VK} {E : XK} (h : q_Lbent Z a0 a1 H Q E) : sp_Lbent Z [a0, a1] H Q E := ⟨a0, a1, rfl, h⟩
def sp_Lheard (Z : Adr) : Sp := Sp2 (q_Lheard Z)
theorem cl_Lheard {Z : Adr} {a0 a1 : V} {H : Hp} {Q : VK} {E : XK} (h : q_Lheard Z a0 a1 H Q E) : sp_Lheard Z [a0, a1] H Q E := ⟨a0, a1, rfl, h⟩
def sp_Ledge (Z : Adr) : Sp := Sp1 (q_Ledge Z)
theorem cl_Ledge {Z : Adr} {a0 : V} {H : Hp} {Q : VK} {E : XK} (h : q_Ledge Z a0 H Q E) : sp_Ledge Z [a0] H Q E := ⟨a0, rfl, h⟩
def sp_law (Z : Adr) : Sp := Sp1 (q_law Z)
theorem cl_law {Z : Adr} {a0 : V} {H : Hp} {Q : VK} {E : XK} (h : q_law Z a0 H Q E) : sp_law Z [a0] H Q E := ⟨a0, rfl, h⟩
def t_NoSheet_init (Z : Adr) (W : WX) : TS := (tSeq (tDrop (tVeI Z.K (tCons (tVar 0) (tCons (tC (.str "no sheet")) tNil))))
    (tSeq (tOst Z.K "place" (tVar 0) (tVar 1))
    (tOst Z.K "word" (tVar 0) (tVar 2))))
def t_parts_of (Z : Adr) (W : WX) : TS := (tSeq (tIfS (tTest (tOp (rEqU Z.K) (tVar 0) (tC (.int 19)))) (tRet (tC (.int 0))) tNext)
    (tSeq (tIfS (tTest (tOp (rIn Z.K false) (tVar 0) (tTup (tCons (tC (.int 7)) (tCons (tC (.int 18)) tNil))))) (tRet (tC (.int 1))) tNext)
    (tSeq (tIfS (tTest (tOp (rEqU Z.K) (tVar 0) (tC (.int 17)))) (tRet (tC (.int 3))) tNext)
    (tRet (tC (.int 2))))))
def t_Look_init (Z : Adr) (W : WX) : TS := (tSeq (sFld Z.K (tVar 0) (tCB (rListOf Z.K) (tCons (tVar 1) tNil)) "numbers")
    (sFld Z.K (tVar 0) (tC (.int 0)) "place"))
def t_Look_due (Z : Adr) (W : WX) : TS := (tSeq (tIfS (tTest (tOp (rEqU Z.K) (tFld Z.K (tVar 0) "place") (tCB (rLen Z.K) (tCons (tFld Z.K (tVar 0) "numbers") tNil)))) (sRaiseO Z.c_NoSheet (sp_NoSheet_init Z) W (tCons (tFld Z.K (tVar 0) "place") (tCons (tC (.str "end")) tNil))) tNext)
    (tSeq (sFld Z.K (tVar 0) (tOp (rAddU Z.K) (tFld Z.K (tVar 0) "place") (tC (.int 1))) "place")
    (tRet (tOp (rIx Z.K) (tFld Z.K (tVar 0) "numbers") (tOp (rI0 fun i j => .int (i - j)) (tFld Z.K (tVar 0) "place") (tC (.int 1)))))))
def t_Look_within (Z : Adr) (W : WX) : TS := (tSeq (tAsg (tMethZ Z.c_Look "due" (sp_Look_due Z) (WE W) (tVar 0) tNil) (gName 3))
    (tSeq (tIfS (tNot (tTest (tChain (rI0 fun i j => .bl (decide (i ≤ j))) (rI0 fun i j => .bl (decide (i ≤ j))) (tVar 1) (tVar 3) (tVar 2)))) (sRaiseO Z.c_NoSheet (sp_NoSheet_init Z) W (tCons (tOp (rI0 fun i j => .int (i - j)) (tFld Z.K (tVar 0) "place") (tC (.int 1))) (tCons (tC (.str "range")) tNil))) tNext)
    (tRet (tVar 3))))
def t_heads_in (Z : Adr) (W : WX) : TS := (tSeq (tAsg (tLst tNil) (gName 1))
    (tSeq (tFor (iRng1 (tCons (tMethZ Z.c_Look "within" (sp_Look_within Z) (WE W) (tVar 0) (tCons (tC (.int 1)) (tCons (tC (.int 16)) tNil))) tNil)) (gName 2) (tSeq (tAsg (tMethZ Z.c_Look "within" (sp_Look_within Z) (WE W) (tVar 0) (tCons (tC (.int 0)) (tCons (tOp rMul (tC (.int 4)) (tCB rInt1 (tCons (tOp (rI0 fun i j => .bl (decide (j < i))) (tVar 2) (tC (.int 0))) tNil))) tNil))) (gName 3))
    (tDrop (tBM Z.K "list" rAppend (tVar 1) (tCons (tTup (tCons (tVar 3) (tCons (tMethZ Z.c_Look "within" (sp_Look_within Z) (WE W) (tVar 0) (tCons (tVar 3) (tCons (tC (.int 12)) tNil))) tNil))) tNil)))))
    (tRet (tVar 1))))
def t_own_numbers (Z : Adr) (W : WX) : TS := (tSeq (tIfS (tTest (tOp (rEqU Z.K) (tVar 3) (tC (.int 0)))) (tRet (tTup (tCons (tTup (tCons (tMethZ Z.c_Look "due" (sp_Look_due Z) (WE W) (tVar 0) tNil) tNil)) (tCons (tC (.int 0)) tNil)))) tNext)
    (tSeq (tIfS (tTest (tOp (rEqU Z.K) (tVar 3) (tC (.int 1)))) (tRet (tTup (tCons (tTup (tCons (tMethZ Z.c_Look "within" (sp_Look_within Z) (WE W) (tVar 0) (tCons (tC (.int 0)) (tCons (tOp (rI0 fun i j => .int (i - j)) (tVar 2) (tC (.int 1))) tNil))) tNil)) (tCons (tC (.int 0)) tNil)))) tNext)
    (tSeq (tIfS (tTest (tOp (rEqU Z.K) (tVar 3) (tC (.int 2)))) (tRet (tTup (tCons (tTup (tCons (tMethZ Z.c_Look "within" (sp_Look_within Z) (WE W) (tVar 0) (tCons (tC (.int 0)) (tCons (tOp (rI0 fun i j => .int (i - j)) (tVar 2) (tC (.int 1))) tNil))) tNil)) (tCons (tC (.int 1)) tNil)))) tNext)
    (tSeq (tIfS (tTest (tOp (rEqU Z.K) (tVar 3) (tC (.int 3)))) (tSeq (tAsg (tMethZ Z.c_Look "within" (sp_Look_within Z) (WE W) (tVar 0) (tCons (tC (.int 1)) (tCons (tC (.int 12)) tNil))) (gName 4))
    (tRet (tTup (tCons (tTup (tCons (tVar 4) tNil)) (tCons (tVar 4) tNil))))) tNext)
    (tSeq (tIfS (tTest (tOp (rEqU Z.K) (tVar 3) (tC (.int 4)))) (tSeq (tAsg (tMethZ Z.c_Look "within" (sp_Look_within Z) (WE W) (tVar 0) (tCons (tC (.int 2)) (tCons (tC (.int 12)) tNil))) (gName 4))
    (tRet (tTup (tCons (tTup (tCons (tVar 4) tNil)) (tCons (tOp (rAddU Z.K) (tVar 4) (tC (.int 1))) tNil))))) tNext)
    (tSeq (tIfS (tTest (tOp (rEqU Z.K) (tVar 3) (tC (.int 6)))) (tSeq (tAsg (tMethZ Z.c_Look "within" (sp_Look_within Z) (WE W) (tVar 0) (tCons (tC (.int 0)) (tCons (tOp (rI0 fun i j => .int (i - j)) (tCB (rLen Z.K) (tCons (tVar 1) tNil)) (tC (.int 1))) tNil))) (gName 5))
    (tRet (tTup (tCons (tTup (tCons (tVar 5) tNil)) (tCons (tOp (rIx Z.K) (tOp (rIx Z.K) (tVar 1) (tVar 5)) (tC (.int 0))) tNil))))) tNext)
    (tSeq (tIfS (tTest (tOp (rEqU Z.K) (tVar 3) (tC (.int 5)))) (tRet (tTup (tCons (tTup tNil) (tCons (tC (.int 2)) tNil)))) tNext)
    (tRet (tTup (tCons (tTup tNil) (tCons (tCallS (sp_parts_of Z) (WE W) (tCons (tVar 3) tNil)) tNil)))))))))))
def t_node_in (Z : Adr) (n : Nat) (W : WX) : TS := (tSeq (tIfS (tTest (tOp (rI0 fun i j => .bl (decide (j < i))) (tVar 3) (tC (.int 10)))) (sRaiseO Z.c_NoSheet (sp_NoSheet_init Z) W (tCons (tFld Z.K (tVar 0) "place") (tCons (tC (.str "deep")) tNil))) tNext)
    (tSeq (tAsg (tFld Z.K (tVar 0) "place") (gName 4))
    (tSeq (tAsg (tMethZ Z.c_Look "within" (sp_Look_within Z) (WE W) (tVar 0) (tCons (tC (.int 0)) (tCons (tC (.int 19)) tNil))) (gName 5))
    (tSeq (tAsg (tCallS (sp_own_numbers Z) (WE W) (tCons (tVar 0) (tCons (tVar 1) (tCons (tVar 2) (tCons (tVar 5) tNil))))) (gUn Z.K 2 (gCons (gName 6) (gCons (gName 7) gNil))))
    (tSeq (tAsg (tLst tNil) (gName 8))
    (tSeq (tFor (iRng1 (tCons (tVar 7) tNil)) (gName 9) (tDrop (tBM Z.K "list" rAppend (tVar 8) (tCons (tCallS (sp_node_in Z n) (WE W) (tCons (tVar 0) (tCons (tVar 1) (tCons (tVar 2) (tCons (tOp (rAddU Z.K) (tVar 3) (tC (.int 1))) tNil))))) tNil))))
    (tRet (tTup (tCons (tVar 5) (tCons (tVar 4) (tCons (tVar 6) (tCons (tCB (rTupOf Z.K) (tCons (tVar 8) tNil)) tNil))))))))))))
def t_functions (Z : Adr) (W : WX) : TS := (tSeq (tAsg (tMakeZ Z.c_Look (sp_Look_init Z) (WE W) (tCons (tVar 0) tNil)) (gName 1))
    (tSeq (tAsg (tCallS (sp_heads_in Z) (WE W) (tCons (tVar 1) tNil)) (gName 2))
    (tSeq (tAsg (tLst tNil) (gName 3))
    (tSeq (tFor (iList Z.K (tVar 2)) (gUn Z.K 2 (gCons (gName 4) (gCons (gName 5) gNil))) (tDrop (tBM Z.K "list" rAppend (tVar 3) (tCons (tTup (tCons (tVar 4) (tCons (tVar 5) (tCons (tCallS (sp_node_in Z 12) (WE W) (tCons (tVar 1) (tCons (tVar 2) (tCons (tVar 5) (tCons (tC (.int 1)) tNil))))) tNil)))) tNil))))
    (tSeq (tIfS (tTest (tOp (rI0 fun i j => .bl (decide (i < j))) (tFld Z.K (tVar 1) "place") (tCB (rLen Z.K) (tCons (tFld Z.K (tVar 1) "numbers") tNil)))) (sRaiseO Z.c_NoSheet (sp_NoSheet_init Z) W (tCons (tFld Z.K (tVar 1) "place") (tCons (tC (.str "over")) tNil))) tNext)
    (tRet (tVar 3)))))))
def t_wrong (Z : Adr) (W : WX) : TS := (tSeq (tAsg (tC .non) (gName 1))
    (tSeq (sTryAs Z.K (.ref Z.c_NoSheet) 2 (fun W => (tDrop (tCallS (sp_functions Z) (WE W) (tCons (tVar 0) tNil)))) (fun a cls d => (tAsg (tTup (tCons (tXf a cls d Z.c_NoSheet "place" (tVar 2)) (tCons (tXf a cls d Z.c_NoSheet "word" (tVar 2)) tNil))) (gName 1))) W)
    (tRet (tVar 1))))
def t_nodes_in (Z : Adr) (n : Nat) (W : WX) : TS := (tSeq (tAsg (tLst (tCons (tVar 0) tNil)) (gName 1))
    (tSeq (tFor (iTup Z.K (tOp (rIx Z.K) (tVar 0) (tC (.int 3)))) (gName 2) (tDrop (tBM Z.K "list" rExtend (tVar 1) (tCons (tCallS (sp_nodes_in Z n) (WE W) (tCons (tVar 2) tNil)) tNil))))
    (tRet (tVar 1))))
def t_nodes (Z : Adr) (W : WX) : TS := (tSeq (tAsg (tLst tNil) (gName 1))
    (tSeq (tFor (iList Z.K (tCallS (sp_functions Z) (WE W) (tCons (tVar 0) tNil))) (gUn Z.K 3 (gCons (gName 2) (gCons (gName 3) (gCons (gName 4) gNil)))) (tDrop (tBM Z.K "list" rExtend (tVar 1) (tCons (tCallS (sp_nodes_in Z 12) (WE W) (tCons (tVar 4) tNil)) tNil))))
    (tRet (tVar 1))))
def t_Lmixed (Z : Adr) (W : WX) : TS := (tSeq (tAsg (tOp rMod (tOp rMul (tOp (rAddU Z.K) (tOp (rAddU Z.K) (tOp rMod (tVar 0) (tC (.int 2147483587))) (tOp rMul (tC (.int 30011)) (tVar 1))) (tC (.int 4711))) (tC (.int 39373))) (tC (.int 2147483647))) (gName 2))
    (tSeq (tAsg (tOp rMod (tOp (rAddU Z.K) (tOp (rAddU Z.K) (tOp rMul (tVar 2) (tVar 2)) (tOp rMul (tC (.int 40014)) (tVar 2))) (tOp rMul (tC (.int 7)) (tVar 1))) (tC (.int 2147483563))) (gName 3))
    (tRet (tOp rFdv (tOp rMod (tOp rMul (tVar 3) (tOp (rAddU Z.K) (tVar 3) (tC (.int 16807)))) (tC (.int 1073741783))) (tC (.int 5))))))
def t_Ltake (Z : Adr) (W : WX) : TS := (C8.tCut (tIfS (tTest (tOp (rEqU Z.K) (tOp (rIx Z.K) (tVar 0) (tC (.int 2))) (tC (.int 0)))) (tSeq (tAsg (tOp (rIx Z.K) (tVar 0) (tC (.int 0))) (gName 2))
    (tSeq (tAsg (tOp (rIx Z.K) (tVar 0) (tC (.int 1))) (gName 3))
    (tSeq (tAsg (tOp (rAddU Z.K) (tVar 3) (tC (.int 1))) (gSub (tVar 0) (tC (.int 1)) rSetL))
    (tSeq (tAsg (tC (.int 0)) (gName 4))
    (C8.tCut (tIfS (tTest (tOp (rI0 fun i j => .bl (decide (i < j))) (tVar 3) (tCB (rLen Z.K) (tCons (tVar 2) tNil)))) (tAsg (tOp (rIx Z.K) (tVar 2) (tVar 3)) (gName 4)) (tIfS (tTest (tOp (rI0 fun i j => .bl (decide (j < i))) (tCB (rLen Z.K) (tCons (tVar 2) tNil)) (tC (.int 0)))) (tAsg (tOp rMod (tOp (rIx Z.K) (tVar 2) (tOp rMod (tVar 3) (tCB (rLen Z.K) (tCons (tVar 2) tNil)))) (tC (.int 100000000000000000))) (gName 4)) tNext))
    (tSeq (tIfS (tTest (tOp (rI0 fun i j => .bl (decide (i < j))) (tCB rAbs (tCons (tVar 4) tNil)) (tC (.int 1000000000000000000)))) (tRet (tOp rMod (tCallS (sp_Lmixed Z) (WE W) (tCons (tVar 4) (tCons (tVar 3) tNil))) (tVar 1))) tNext)
    (tAsg (tCB rAbs (tCons (tVar 4) tNil)) (gSub (tVar 0) (tC (.int 2)) rSetL)))))))) tNext)
    (tSeq (tAsg (tOp rMod (tOp (rIx Z.K) (tVar 0) (tC (.int 2))) (tVar 1)) (gName 5))
    (tSeq (tAsg (tOp rFdv (tOp (rIx Z.K) (tVar 0) (tC (.int 2))) (tVar 1)) (gSub (tVar 0) (tC (.int 2)) rSetL))
    (tRet (tVar 5)))))
def t_Lheads (Z : Adr) (W : WX) : TS := (tSeq (tAsg (tOp (rAddU Z.K) (tC (.int 1)) (tCallS (sp_Ltake Z) (WE W) (tCons (tVar 0) (tCons (tC (.int 4)) tNil)))) (gName 1))
    (C8.tCut (tIfS (tTest (tOp (rEqU Z.K) (tCallS (sp_Ltake Z) (WE W) (tCons (tVar 0) (tCons (tC (.int 8)) tNil))) (tC (.int 5)))) (tAsg (tOp (rAddU Z.K) (tC (.int 1)) (tCallS (sp_Ltake Z) (WE W) (tCons (tVar 0) (tCons (tC (.int 16)) tNil)))) (gName 1)) tNext)
    (tSeq (tAsg (tLst tNil) (gName 2))
    (tSeq (tFor (iRng1 (tCons (tVar 1) tNil)) (gName 3) (tSeq (tAsg (tOp rMul (tCallS (sp_Ltake Z) (WE W) (tCons (tVar 0) (tCons (tC (.int 5)) tNil))) (tCB rInt1 (tCons (tOp (rI0 fun i j => .bl (decide (j < i))) (tVar 3) (tC (.int 0))) tNil))) (gName 4))
    (tDrop (tBM Z.K "list" rAppend (tVar 2) (tCons (tTup (tCons (tVar 4) (tCons (tOp (rAddU Z.K) (tVar 4) (tCallS (sp_Ltake Z) (WE W) (tCons (tVar 0) (tCons (tOp (rIx Z.K) (tLst (tCons (tOp (rI0 fun i j => .int (i - j)) (tC (.int 13)) (tVar 4)) (tCons (tC (.int 4)) tNil))) (tCallS (sp_Ltake Z) (WE W) (tCons (tVar 0) (tCons (tC (.int 2)) tNil)))) tNil)))) tNil))) tNil)))))
    (tRet (tVar 2))))))
def t_Lnumber (Z : Adr) (W : WX) : TS := (tSeq (tAsg (tCallS (sp_Ltake Z) (WE W) (tCons (tVar 0) (tCons (tC (.int 6)) tNil))) (gName 1))
    (tSeq (tIfS (tTest (tOp (rI0 fun i j => .bl (decide (i < j))) (tVar 1) (tC (.int 4)))) (tRet (tOp (rI0 fun i j => .int (i - j)) (tCallS (sp_Ltake Z) (WE W) (tCons (tVar 0) (tCons (tC (.int 9)) tNil))) (tC (.int 3)))) tNext)
    (tSeq (tIfS (tTest (tOp (rEqU Z.K) (tVar 1) (tC (.int 4)))) (tRet (tOp (rI0 fun i j => .int (i - j)) (tCallS (sp_Ltake Z) (WE W) (tCons (tVar 0) (tCons (tC (.int 400)) tNil))) (tC (.int 200)))) tNext)
    (tRet (tOp (rAddU Z.K) (tOp (rI0 fun i j => .int (i - j)) (tCallS (sp_Ltake Z) (WE W) (tCons (tVar 0) (tCons (tOp (rI0 fun i j => .int (i - j)) (tOp rMul (tC (.int 2)) (tC (.int 1000000000000000000000000000000000000000000000000000000000000))) (tC (.int 1))) tNil))) (tC (.int 1000000000000000000000000000000000000000000000000000000000000))) (tC (.int 1)))))))
def t_Lleaf (Z : Adr) (W : WX) : TS := (tSeq (tAsg (tCallS (sp_Ltake Z) (WE W) (tCons (tVar 0) (tCons (tC (.int 5)) tNil))) (gName 2))
    (tSeq (tIfS (tAnd (tTest (tOp (rI0 fun i j => .bl (decide (i < j))) (tVar 2) (tC (.int 2)))) (tTest (tOp (rI0 fun i j => .bl (decide (j < i))) (tVar 1) (tC (.int 0))))) (tRet (tLst (tCons (tC (.int 1)) (tCons (tCallS (sp_Ltake Z) (WE W) (tCons (tVar 0) (tCons (tVar 1) tNil))) tNil)))) tNext)
    (tSeq (tIfS (tTest (tOp (rEqU Z.K) (tVar 2) (tC (.int 2)))) (tRet (tLst (tCons (tC (.int 19)) tNil))) tNext)
    (tRet (tLst (tCons (tC (.int 0)) (tCons (tCallS (sp_Lnumber Z) (WE W) (tCons (tVar 0) tNil)) tNil)))))))
def t_Lhead (Z : Adr) (W : WX) : TS := (tSeq (tAsg (tCallS (sp_Ltake Z) (WE W) (tCons (tVar 0) (tCons (tC (.int 20)) tNil))) (gName 3))
    (tSeq (tIfS (tAnd (tTest (tOp (rEqU Z.K) (tVar 3) (tC (.int 2)))) (tTest (tOp (rI0 fun i j => .bl (decide (j < i))) (tVar 2) (tC (.int 0))))) (tRet (tTup (tCons (tLst (tCons (tC (.int 2)) (tCons (tCallS (sp_Ltake Z) (WE W) (tCons (tVar 0) (tCons (tVar 2) tNil))) tNil))) (tCons (tC (.int 1)) tNil)))) tNext)
    (tSeq (tIfS (tTest (tOp (rEqU Z.K) (tVar 3) (tC (.int 3)))) (tSeq (tAsg (tOp (rAddU Z.K) (tC (.int 1)) (tCallS (sp_Ltake Z) (WE W) (tCons (tVar 0) (tCons (tOp (rIx Z.K) (tLst (tCons (tC (.int 4)) (tCons (tC (.int 4)) (tCons (tC (.int 4)) (tCons (tC (.int 12)) tNil))))) (tCallS (sp_Ltake Z) (WE W) (tCons (tVar 0) (tCons (tC (.int 4)) tNil)))) tNil)))) (gName 4))
    (tRet (tTup (tCons (tLst (tCons (tC (.int 3)) (tCons (tVar 4) tNil))) (tCons (tVar 4) tNil))))) tNext)
    (tSeq (tIfS (tTest (tOp (rEqU Z.K) (tVar 3) (tC (.int 4)))) (tSeq (tAsg (tOp (rAddU Z.K) (tC (.int 2)) (tCallS (sp_Ltake Z) (WE W) (tCons (tVar 0) (tCons (tOp (rIx Z.K) (tLst (tCons (tC (.int 3)) (tCons (tC (.int 3)) (tCons (tC (.int 3)) (tCons (tC (.int 11)) tNil))))) (tCallS (sp_Ltake Z) (WE W) (tCons (tVar 0) (tCons (tC (.int 4)) tNil)))) tNil)))) (gName 4))
    (tRet (tTup (tCons (tLst (tCons (tC (.int 4)) (tCons (tVar 4) tNil))) (tCons (tOp (rAddU Z.K) (tVar 4) (tC (.int 1))) tNil))))) tNext)
    (tSeq (tIfS (tTest (tOp (rEqU Z.K) (tVar 3) (tC (.int 6)))) (tSeq (tAsg (tCallS (sp_Ltake Z) (WE W) (tCons (tVar 0) (tCons (tCB (rLen Z.K) (tCons (tVar 1) tNil)) tNil))) (gName 5))
    (tRet (tTup (tCons (tLst (tCons (tC (.int 6)) (tCons (tVar 5) tNil))) (tCons (tOp (rIx Z.K) (tOp (rIx Z.K) (tVar 1) (tVar 5)) (tC (.int 0))) tNil))))) tNext)
    (tRet (tTup (tCons (tLst (tCons (tVar 3) tNil)) (tCons (tOp (rIx Z.K) (tLst (tCons (tC (.int 0)) (tCons (tC (.int 0)) (tCons (tC (.int 0)) (tCons (tC (.int 0)) (tCons (tC (.int 0)) (tCons (tC (.int 2)) (tCons (tC (.int 0)) (tCons (tC (.int 1)) (tCons (tC (.int 2)) (tCons (tC (.int 2)) (tCons (tC (.int 2)) (tCons (tC (.int 2)) (tCons (tC (.int 2)) (tCons (tC (.int 2)) (tCons (tC (.int 2)) (tCons (tC (.int 2)) (tCons (tC (.int 2)) (tCons (tC (.int 3)) (tCons (tC (.int 1)) (tCons (tC (.int 0)) tNil))))))))))))))))))))) (tVar 3)) tNil)))))))))
def t_Lnode (Z : Adr) (n : Nat) (W : WX) : TS := (tSeq (tAsg (tCallS (sp_Lhead Z) (WE W) (tCons (tVar 0) (tCons (tVar 1) (tCons (tVar 2) tNil)))) (gUn Z.K 2 (gCons (gName 5) (gCons (gName 6) gNil))))
    (tSeq (tIfS (tOr (tAnd (tTest (tOp (rI0 fun i j => .bl (decide (i < j))) (tOp (rIx Z.K) (tVar 5) (tC (.int 0))) (tC (.int 3)))) (tTest (tOp (rI0 fun i j => .bl (decide (i < j))) (tCB (rLen Z.K) (tCons (tVar 5) tNil)) (tC (.int 2))))) (tOr (tTest (tOp (rI0 fun i j => .bl (decide (j < i))) (tVar 6) (tOp (rIx Z.K) (tVar 4) (tC (.int 0))))) (tAnd (tTest (tOp (rI0 fun i j => .bl (decide (j < i))) (tVar 6) (tC (.int 0)))) (tTest (tOp (rI0 fun i j => .bl (decide (j < i))) (tVar 3) (tC (.int 9))))))) (tRet (tCallS (sp_Lleaf Z) (WE W) (tCons (tVar 0) (tCons (tVar 2) tNil)))) tNext)
    (tSeq (tAsg (tOp (rI0 fun i j => .int (i - j)) (tOp (rIx Z.K) (tVar 4) (tC (.int 0))) (tVar 6)) (gSub (tVar 4) (tC (.int 0)) rSetL))
    (tSeq (tFor (iRng1 (tCons (tVar 6) tNil)) (gName 7) (tAsg (tOp (rAddU Z.K) (tVar 5) (tCallS (sp_Lnode Z n) (WE W) (tCons (tVar 0) (tCons (tVar 1) (tCons (tVar 2) (tCons (tOp (rAddU Z.K) (tVar 3) (tC (.int 1))) (tCons (tVar 4) tNil))))))) (gName 5)))
    (tRet (tVar 5))))))
def t_Lsheet (Z : Adr) (W : WX) : TS := (tSeq (tAsg (tCallS (sp_Lheads Z) (WE W) (tCons (tVar 0) tNil)) (gName 2))
    (tSeq (tAsg (tLst (tCons (tCB (rLen Z.K) (tCons (tVar 2) tNil)) tNil)) (gName 3))
    (tSeq (tFor (iList Z.K (tVar 2)) (gUn Z.K 2 (gCons (gName 4) (gCons (gName 5) gNil))) (tDrop (tBM Z.K "list" rExtend (tVar 3) (tCons (tLst (tCons (tVar 4) (tCons (tVar 5) tNil))) tNil))))
    (tSeq (tFor (iList Z.K (tVar 2)) (gUn Z.K 2 (gCons (gName 4) (gCons (gName 5) gNil))) (tDrop (tBM Z.K "list" rExtend (tVar 3) (tCons (tCallS (sp_Lnode Z 12) (WE W) (tCons (tVar 0) (tCons (tVar 2) (tCons (tVar 5) (tCons (tC (.int 1)) (tCons (tLst (tCons (tCallS (sp_Ltake Z) (WE W) (tCons (tVar 0) (tCons (tVar 1) tNil))) tNil)) tNil)))))) tNil))))
    (tRet (tVar 3))))))
def t_Lown (Z : Adr) (W : WX) : TS := (tSeq (tAsg (tOp (rIx Z.K) (tVar 0) (tVar 1)) (gName 3))
    (tSeq (tIfS (tTest (tOp (rIn Z.K false) (tVar 3) (tTup (tCons (tC (.int 1)) (tCons (tC (.int 2)) tNil))))) (tRet (tTup (tCons (tC (.int 0)) (tCons (tOp (rI0 fun i j => .int (i - j)) (tVar 2) (tC (.int 1))) tNil)))) tNext)
    (tSeq (tIfS (tTest (tOp (rIn Z.K false) (tVar 3) (tTup (tCons (tC (.int 3)) (tCons (tC (.int 4)) tNil))))) (tRet (tTup (tCons (tOp (rI0 fun i j => .int (i - j)) (tVar 3) (tC (.int 2))) (tCons (tC (.int 12)) tNil)))) tNext)
    (tRet (tTup (tCons (tC (.int 0)) (tCons (tOp (rI0 fun i j => .int (i - j)) (tOp (rIx Z.K) (tVar 0) (tC (.int 0))) (tC (.int 1))) tNil)))))))
def t_Lparts (Z : Adr) (W : WX) : TS := (tSeq (tAsg (tOp (rIx Z.K) (tVar 0) (tVar 1)) (gName 2))
    (tSeq (tIfS (tTest (tOp (rEqU Z.K) (tVar 2) (tC (.int 3)))) (tRet (tOp (rIx Z.K) (tVar 0) (tOp (rAddU Z.K) (tVar 1) (tC (.int 1))))) tNext)
    (tSeq (tIfS (tTest (tOp (rEqU Z.K) (tVar 2) (tC (.int 4)))) (tRet (tOp (rAddU Z.K) (tOp (rIx Z.K) (tVar 0) (tOp (rAddU Z.K) (tVar 1) (tC (.int 1)))) (tC (.int 1)))) tNext)
    (tSeq (tIfS (tTest (tOp (rEqU Z.K) (tVar 2) (tC (.int 6)))) (tRet (tOp (rIx Z.K) (tVar 0) (tOp (rAddU Z.K) (tC (.int 1)) (tOp rMul (tC (.int 2)) (tOp (rIx Z.K) (tVar 0) (tOp (rAddU Z.K) (tVar 1) (tC (.int 1)))))))) tNext)
    (tRet (tOp (rIx Z.K) (tLst (tCons (tC (.int 0)) (tCons (tC (.int 0)) (tCons (tC (.int 1)) (tCons (tC (.int 0)) (tCons (tC (.int 0)) (tCons (tC (.int 2)) (tCons (tC (.int 0)) (tCons (tC (.int 1)) (tCons (tC (.int 2)) (tCons (tC (.int 2)) (tCons (tC (.int 2)) (tCons (tC (.int 2)) (tCons (tC (.int 2)) (tCons (tC (.int 2)) (tCons (tC (.int 2)) (tCons (tC (.int 2)) (tCons (tC (.int 2)) (tCons (tC (.int 3)) (tCons (tC (.int 1)) (tCons (tC (.int 0)) tNil))))))))))))))))))))) (tVar 2)))))))
def t_Lhead_wrong (Z : Adr) (W : WX) : TS := (tSeq (tIfS (tTest (tOp (rEqU Z.K) (tCB (rLen Z.K) (tCons (tVar 0) tNil)) (tC (.int 0)))) (tRet (tTup (tCons (tC (.int 0)) (tCons (tC (.str "end")) tNil)))) tNext)
    (tSeq (tIfS (tNot (tTest (tChain (rI0 fun i j => .bl (decide (i ≤ j))) (rI0 fun i j => .bl (decide (i ≤ j))) (tC (.int 1)) (tOp (rIx Z.K) (tVar 0) (tC (.int 0))) (tC (.int 16))))) (tRet (tTup (tCons (tC (.int 0)) (tCons (tC (.str "range")) tNil)))) tNext)
    (tSeq (tFor (iRng2 (tCons (tC (.int 1)) (tCons (tOp (rAddU Z.K) (tC (.int 1)) (tOp rMul (tC (.int 2)) (tOp (rIx Z.K) (tVar 0) (tC (.int 0))))) tNil))) (gName 1) (tSeq (tIfS (tTest (tOp (rEqU Z.K) (tVar 1) (tCB (rLen Z.K) (tCons (tVar 0) tNil)))) (tRet (tTup (tCons (tVar 1) (tCons (tC (.str "end")) tNil)))) tNext)
    (tSeq (tIfS (tAnd (tTest (tOp (rEqU Z.K) (tOp rMod (tVar 1) (tC (.int 2))) (tC (.int 1)))) (tNot (tTest (tChain (rI0 fun i j => .bl (decide (i ≤ j))) (rI0 fun i j => .bl (decide (i ≤ j))) (tC (.int 0)) (tOp (rIx Z.K) (tVar 0) (tVar 1)) (tOp rMul (tC (.int 4)) (tCB rInt1 (tCons (tOp (rI0 fun i j => .bl (decide (j < i))) (tVar 1) (tC (.int 1))) tNil))))))) (tRet (tTup (tCons (tVar 1) (tCons (tC (.str "range")) tNil)))) tNext)
    (tIfS (tAnd (tTest (tOp (rEqU Z.K) (tOp rMod (tVar 1) (tC (.int 2))) (tC (.int 0)))) (tNot (tTest (tChain (rI0 fun i j => .bl (decide (i ≤ j))) (rI0 fun i j => .bl (decide (i ≤ j))) (tOp (rIx Z.K) (tVar 0) (tOp (rI0 fun i j => .int (i - j)) (tVar 1) (tC (.int 1)))) (tOp (rIx Z.K) (tVar 0) (tVar 1)) (tC (.int 12)))))) (tRet (tTup (tCons (tVar 1) (tCons (tC (.str "range")) tNil)))) tNext))))
    (tRet (tC .non)))))
def t_Lwrong (Z : Adr) (W : WX) : TS := (tSeq (tAsg (tCallS (sp_Lhead_wrong Z) (WE W) (tCons (tVar 0) tNil)) (gName 1))
    (tSeq (tIfS (tTest (tOp rNotU (tVar 1) (tC .non))) (tRet (tVar 1)) tNext)
    (tSeq (tAsg (tLc (iRng3 (tCons (tOp (rIx Z.K) (tVar 0) (tC (.int 0))) (tCons (tC (.int 0)) (tCons (tUn (rU fun i => .int (-i)) (tC (.int 1))) tNil)))) (gName 10) tYes (tTup (tCons (tC (.int 1)) (tCons (tOp (rIx Z.K) (tVar 0) (tOp rMul (tC (.int 2)) (tVar 10))) tNil))) [9, 10]) (gName 2))
    (tSeq (tAsg (tOp (rAddU Z.K) (tC (.int 1)) (tOp rMul (tC (.int 2)) (tOp (rIx Z.K) (tVar 0) (tC (.int 0))))) (gName 3))
    (tSeq (tWhile (tTest (tOp (rNeU Z.K) (tVar 2) (tLst tNil))) (tSeq (tAsg (tBM0 Z.K "list" rPop (tVar 2)) (gUn Z.K 2 (gCons (gName 4) (gCons (gName 5) gNil))))
    (tSeq (tIfS (tTest (tOp (rI0 fun i j => .bl (decide (j < i))) (tVar 4) (tC (.int 10)))) (tRet (tTup (tCons (tVar 3) (tCons (tC (.str "deep")) tNil)))) tNext)
    (tSeq (tIfS (tTest (tOp (rEqU Z.K) (tVar 3) (tCB (rLen Z.K) (tCons (tVar 0) tNil)))) (tRet (tTup (tCons (tVar 3) (tCons (tC (.str "end")) tNil)))) tNext)
    (tSeq (tIfS (tNot (tTest (tChain (rI0 fun i j => .bl (decide (i ≤ j))) (rI0 fun i j => .bl (decide (i ≤ j))) (tC (.int 0)) (tOp (rIx Z.K) (tVar 0) (tVar 3)) (tC (.int 19))))) (tRet (tTup (tCons (tVar 3) (tCons (tC (.str "range")) tNil)))) tNext)
    (tSeq (tAsg (tCB rInt1 (tCons (tOp (rIn Z.K false) (tOp (rIx Z.K) (tVar 0) (tVar 3)) (tTup (tCons (tC (.int 0)) (tCons (tC (.int 1)) (tCons (tC (.int 2)) (tCons (tC (.int 3)) (tCons (tC (.int 4)) (tCons (tC (.int 6)) tNil)))))))) tNil)) (gName 6))
    (tSeq (tIfS (tAnd (tTest (tOp (rEqU Z.K) (tVar 6) (tC (.int 1)))) (tTest (tOp (rEqU Z.K) (tOp (rAddU Z.K) (tVar 3) (tC (.int 1))) (tCB (rLen Z.K) (tCons (tVar 0) tNil))))) (tRet (tTup (tCons (tOp (rAddU Z.K) (tVar 3) (tC (.int 1))) (tCons (tC (.str "end")) tNil)))) tNext)
    (C8.tCut (tIfS (tAnd (tTest (tOp (rEqU Z.K) (tVar 6) (tC (.int 1)))) (tTest (tOp (rI0 fun i j => .bl (decide (j < i))) (tOp (rIx Z.K) (tVar 0) (tVar 3)) (tC (.int 0))))) (tSeq (tAsg (tCallS (sp_Lown Z) (WE W) (tCons (tVar 0) (tCons (tVar 3) (tCons (tVar 5) tNil)))) (gUn Z.K 2 (gCons (gName 7) (gCons (gName 8) gNil))))
    (tIfS (tNot (tTest (tChain (rI0 fun i j => .bl (decide (i ≤ j))) (rI0 fun i j => .bl (decide (i ≤ j))) (tVar 7) (tOp (rIx Z.K) (tVar 0) (tOp (rAddU Z.K) (tVar 3) (tC (.int 1)))) (tVar 8)))) (tRet (tTup (tCons (tOp (rAddU Z.K) (tVar 3) (tC (.int 1))) (tCons (tC (.str "range")) tNil)))) tNext)) tNext)
    (tSeq (tAsg (tOp (rAddU Z.K) (tVar 2) (tOp rRep (tLst (tCons (tTup (tCons (tOp (rAddU Z.K) (tVar 4) (tC (.int 1))) (tCons (tVar 5) tNil))) tNil)) (tCallS (sp_Lparts Z) (WE W) (tCons (tVar 0) (tCons (tVar 3) tNil))))) (gName 2))
    (tAsg (tOp (rAddU Z.K) (tOp (rAddU Z.K) (tVar 3) (tC (.int 1))) (tVar 6)) (gName 3)))))))))))
    (tSeq (tIfS (tTest (tOp (rI0 fun i j => .bl (decide (i < j))) (tVar 3) (tCB (rLen Z.K) (tCons (tVar 0) tNil)))) (tRet (tTup (tCons (tVar 3) (tCons (tC (.str "over")) tNil)))) tNext)
    (tRet (tC .non))))))))
def t_Lbent (Z : Adr) (W : WX) : TS := (tSeq (tAsg (tCB (rListOf Z.K) (tCons (tVar 1) tNil)) (gName 2))
    (tSeq (tFor (iRng1 (tCons (tOp (rAddU Z.K) (tC (.int 1)) (tCallS (sp_Ltake Z) (WE W) (tCons (tVar 0) (tCons (tC (.int 2)) tNil)))) tNil)) (gName 3) (tSeq (tAsg (tCallS (sp_Ltake Z) (WE W) (tCons (tVar 0) (tCons (tOp (rAddU Z.K) (tCB (rLen Z.K) (tCons (tVar 2) tNil)) (tC (.int 1))) tNil))) (gName 4))
    (tSeq (tAsg (tOp (rIx Z.K) (tLst (tCons (tOp (rI0 fun i j => .int (i - j)) (tCallS (sp_Ltake Z) (WE W) (tCons (tVar 0) (tCons (tC (.int 22)) tNil))) (tC (.int 1))) (tCons (tOp (rI0 fun i j => .int (i - j)) (tCallS (sp_Ltake Z) (WE W) (tCons (tVar 0) (tCons (tC (.int 40)) tNil))) (tC (.int 20))) (tCons (tC (.int 100000000000000000000000000000000000000000000000000000000000)) tNil)))) (tCallS (sp_Ltake Z) (WE W) (tCons (tVar 0) (tCons (tC (.int 3)) tNil)))) (gName 5))
    (tSeq (tAsg (tCallS (sp_Ltake Z) (WE W) (tCons (tVar 0) (tCons (tC (.int 6)) tNil))) (gName 6))
    (tIfS (tAnd (tTest (tOp (rI0 fun i j => .bl (decide (i < j))) (tVar 6) (tC (.int 2)))) (tTest (tOp (rI0 fun i j => .bl (decide (i < j))) (tVar 4) (tCB (rLen Z.K) (tCons (tVar 2) tNil))))) (tAsg (tVar 5) (gSub (tVar 2) (tVar 4) rSetL)) (tIfS (tTest (tOp (rEqU Z.K) (tVar 6) (tC (.int 2)))) (tAsg (tOp (rAddU Z.K) (tOp (rAddU Z.K) (tSl (rSlU Z.K) (tVar 2) tNoPart (tPart (tVar 4))) (tLst (tCons (tVar 5) tNil))) (tSl (rSlU Z.K) (tVar 2) (tPart (tVar 4)) tNoPart)) (gName 2)) (tIfS (tTest (tOp (rEqU Z.K) (tVar 6) (tC (.int 3)))) (tAsg (tOp (rAddU Z.K) (tSl (rSlU Z.K) (tVar 2) tNoPart (tPart (tVar 4))) (tSl (rSlU Z.K) (tVar 2) (tPart (tOp (rAddU Z.K) (tVar 4) (tC (.int 1)))) tNoPart)) (gName 2)) (tIfS (tTest (tOp (rEqU Z.K) (tVar 6) (tC (.int 4)))) (tAsg (tSl (rSlU Z.K) (tVar 2) tNoPart (tPart (tVar 4))) (gName 2)) (tDrop (tBM Z.K "list" rAppend (tVar 2) (tCons (tVar 5) tNil)))))))))))
    (C8.tCut (tIfS (tTest (tOp (rEqU Z.K) (tCallS (sp_Ltake Z) (WE W) (tCons (tVar 0) (tCons (tC (.int 5)) tNil))) (tC (.int 0)))) (tSeq (tAsg (tLst (tCons (tLst (tCons (tC (.int 7)) tNil)) (tCons (tLst (tCons (tC (.int 18)) tNil)) (tCons (tLst (tCons (tC (.int 3)) (tCons (tC (.int 1)) tNil))) (tCons (tLst (tCons (tC (.int 8)) (tCons (tC (.int 19)) tNil))) (tCons (tLst (tCons (tC (.int 5)) (tCons (tC (.int 19)) tNil))) (tCons (tLst (tCons (tC (.int 15)) (tCons (tC (.int 19)) tNil))) (tCons (tLst (tCons (tC (.int 2)) (tCons (tC (.int 0)) tNil))) (tCons (tLst (tCons (tC (.int 4)) (tCons (tC (.int 2)) tNil))) (tCons (tLst (tCons (tC (.int 4)) (tCons (tC (.int 2)) (tCons (tC (.int 19)) tNil)))) (tCons (tLst (tCons (tC (.int 17)) tNil)) (tCons (tLst (tCons (tC (.int 16)) tNil)) (tCons (tLst (tCons (tC (.int 5)) tNil)) (tCons (tLst (tCons (tC (.int 6)) (tCons (tC (.int 1)) tNil))) tNil)))))))))))))) (gName 7))
    (tSeq (tAsg (tOp (rIx Z.K) (tOp (rAddU Z.K) (tVar 7) (tLst (tCons (tLst (tCons (tC (.int 17)) (tCons (tC (.int 19)) (tCons (tC (.int 19)) tNil)))) tNil))) (tCallS (sp_Ltake Z) (WE W) (tCons (tVar 0) (tCons (tC (.int 14)) tNil)))) (gName 7))
    (tAsg (tOp (rAddU Z.K) (tOp (rAddU Z.K) (tLst (tCons (tC (.int 2)) (tCons (tC (.int 0)) (tCons (tC (.int 1)) (tCons (tC (.int 1)) (tCons (tC (.int 1)) tNil)))))) (tOp rRep (tVar 7) (tOp (rAddU Z.K) (tC (.int 7)) (tCallS (sp_Ltake Z) (WE W) (tCons (tVar 0) (tCons (tC (.int 5)) tNil)))))) (tOp rRep (tLst (tCons (tC (.int 19)) tNil)) (tCallS (sp_Ltake Z) (WE W) (tCons (tVar 0) (tCons (tC (.int 3)) tNil))))) (gName 2)))) tNext)
    (tRet (tVar 2)))))
def t_Lheard (Z : Adr) (W : WX) : TS := (tSeq (tAsg (tC .non) (gName 2))
    (tSeq (tAsg (tC .non) (gName 3))
    (tSeq (sTryKeep Z.K (.ref Z.c_ChainError) 4 (fun W => (tIfS (tTest (tOp (rEqU Z.K) (tVar 0) (tC (.int 0)))) (tAsg (tCallS (sp_functions Z) (WE W) (tCons (tVar 1) tNil)) (gName 3)) (tAsg (tCallS (sp_nodes Z) (WE W) (tCons (tVar 1) tNil)) (gName 3)))) (tAsg (tVar 4) (gName 2)) W)
    (tSeq (tIfS (tTest (tOp rIsU (tVar 2) (tC .non))) (tRet (tLst (tCons (tCB (rIsi2 Z.K) (tCons (tVar 3) (tCons (tC (.ty "list")) tNil))) (tCons (tC .non) (tCons (tC .non) tNil))))) tNext)
    (tSeq (tAsg (tOrV (tCB (rIsi3 Z.K) (tCons (tVar 2) (tCons (tC (.ref Z.c_NoCode)) tNil))) (tOrV (tCB (rIsi3 Z.K) (tCons (tVar 2) (tCons (tC (.ref Z.c_NoName)) tNil))) (tCB (rIsi3 Z.K) (tCons (tVar 2) (tCons (tC (.ref Z.c_NoRow)) tNil))))) (gName 5))
    (tSeq (tIfS (tOr (tB (tVar 5)) (tOr (tB (tCB (rIsi3 Z.K) (tCons (tVar 2) (tCons (tC (.ref Z.c_NoText)) tNil)))) (tOr (tNot (tB (tCB (rIsi3 Z.K) (tCons (tVar 2) (tCons (tC (.ref Z.c_NoSheet)) tNil))))) (tNot (tB (tCB (rIsi3 Z.K) (tCons (tVar 2) (tCons (tC (.ty "ValueError")) tNil)))))))) (tRet (tLst (tCons (tC (.bl false)) (tCons (tC .non) (tCons (tC .non) tNil))))) tNext)
    (tRet (tLst (tCons (tNotV (tCB (rIsi2 Z.K) (tCons (tKf Z.K (tVar 2) "place") (tCons (tC (.ty "bool")) tNil)))) (tCons (tKf Z.K (tVar 2) "place") (tCons (tKf Z.K (tVar 2) "word") tNil)))))))))))
def t_Ledge (Z : Adr) (W : WX) : TS := (tSeq (tAsg (tCallS (sp_Ltake Z) (WE W) (tCons (tVar 0) (tCons (tC (.int 8)) tNil))) (gName 1))
    (tSeq (tAsg (tCallS (sp_Ltake Z) (WE W) (tCons (tVar 0) (tCons (tC (.int 2)) tNil))) (gName 2))
    (tSeq (tIfS (tTest (tOp (rEqU Z.K) (tVar 1) (tC (.int 0)))) (tRet (tOp (rAddU Z.K) (tOp (rAddU Z.K) (tLst (tCons (tOp (rAddU Z.K) (tC (.int 16)) (tVar 2)) tNil)) (tOp rRep (tLst (tCons (tC (.int 0)) (tCons (tC (.int 0)) tNil))) (tOp (rAddU Z.K) (tC (.int 16)) (tVar 2)))) (tOp rRep (tLst (tCons (tC (.int 19)) tNil)) (tOp (rAddU Z.K) (tC (.int 16)) (tVar 2))))) tNext)
    (tSeq (tIfS (tTest (tOp (rEqU Z.K) (tVar 1) (tC (.int 1)))) (tRet (tLst (tCons (tC (.int 2)) (tCons (tC (.int 0)) (tCons (tC (.int 0)) (tCons (tOp (rAddU Z.K) (tC (.int 4)) (tVar 2)) (tCons (tOp (rAddU Z.K) (tC (.int 4)) (tVar 2)) (tCons (tC (.int 19)) (tCons (tC (.int 19)) tNil))))))))) tNext)
    (tSeq (tIfS (tTest (tOp (rEqU Z.K) (tVar 1) (tC (.int 2)))) (tRet (tLst (tCons (tC (.int 1)) (tCons (tC (.int 0)) (tCons (tOp (rAddU Z.K) (tC (.int 12)) (tVar 2)) (tCons (tC (.int 19)) tNil)))))) tNext)
    (tSeq (tIfS (tTest (tOp (rEqU Z.K) (tVar 1) (tC (.int 3)))) (tSeq (tAsg (tOp (rIx Z.K) (tLst (tCons (tOp (rAddU Z.K) (tC (.int 12)) (tVar 2)) (tCons (tOp (rI0 fun i j => .int (i - j)) (tC (.int 1)) (tVar 2)) tNil))) (tCallS (sp_Ltake Z) (WE W) (tCons (tVar 0) (tCons (tC (.int 2)) tNil)))) (gName 3))
    (tRet (tOp (rAddU Z.K) (tLst (tCons (tC (.int 1)) (tCons (tC (.int 0)) (tCons (tC (.int 0)) (tCons (tC (.int 3)) (tCons (tVar 3) tNil)))))) (tOp rRep (tLst (tCons (tC (.int 19)) tNil)) (tVar 3))))) tNext)
    (tSeq (tIfS (tTest (tOp (rEqU Z.K) (tVar 1) (tC (.int 4)))) (tSeq (tAsg (tOp (rIx Z.K) (tLst (tCons (tOp (rAddU Z.K) (tC (.int 12)) (tVar 2)) (tCons (tOp (rI0 fun i j => .int (i - j)) (tC (.int 2)) (tVar 2)) tNil))) (tCallS (sp_Ltake Z) (WE W) (tCons (tVar 0) (tCons (tC (.int 2)) tNil)))) (gName 3))
    (tRet (tOp (rAddU Z.K) (tLst (tCons (tC (.int 1)) (tCons (tC (.int 0)) (tCons (tC (.int 0)) (tCons (tC (.int 4)) (tCons (tVar 3) tNil)))))) (tOp rRep (tLst (tCons (tC (.int 19)) tNil)) (tOp (rAddU Z.K) (tVar 3) (tC (.int 1))))))) tNext)
    (tSeq (tIfS (tTest (tOp (rEqU Z.K) (tVar 1) (tC (.int 5)))) (tRet (tSl (rSlU Z.K) (tLst (tCons (tC (.int 1)) (tCons (tC (.int 0)) (tCons (tC (.int 0)) (tCons (tOp (rIx Z.K) (tLst (tCons (tOp (rAddU Z.K) (tC (.int 19)) (tVar 2)) (tCons (tOp (rI0 fun i j => .int (i - j)) (tC (.int 0)) (tVar 2)) tNil))) (tCallS (sp_Ltake Z) (WE W) (tCons (tVar 0) (tCons (tC (.int 2)) tNil)))) (tCons (tC (.int 0)) tNil)))))) tNoPart (tPart (tOp (rAddU Z.K) (tC (.int 4)) (tCallS (sp_Ltake Z) (WE W) (tCons (tVar 0) (tCons (tC (.int 2)) tNil))))))) tNext)
    (tSeq (tIfS (tTest (tOp (rEqU Z.K) (tVar 1) (tC (.int 6)))) (tSeq (tAsg (tOp (rAddU Z.K) (tC (.int 1)) (tCallS (sp_Ltake Z) (WE W) (tCons (tVar 0) (tCons (tC (.int 12)) tNil)))) (gName 4))
    (tRet (tSl (rSlU Z.K) (tLst (tCons (tC (.int 1)) (tCons (tC (.int 0)) (tCons (tVar 4) (tCons (tOp (rIx Z.K) (tLst (tCons (tC (.int 1)) (tCons (tC (.int 2)) tNil))) (tCallS (sp_Ltake Z) (WE W) (tCons (tVar 0) (tCons (tC (.int 2)) tNil)))) (tCons (tOp (rAddU Z.K) (tOp (rI0 fun i j => .int (i - j)) (tVar 4) (tC (.int 1))) (tVar 2)) (tCons (tC (.int 19)) tNil))))))) tNoPart (tPart (tOp (rAddU Z.K) (tC (.int 5)) (tCallS (sp_Ltake Z) (WE W) (tCons (tVar 0) (tCons (tC (.int 2)) tNil)))))))) tNext)
    (tSeq (tAsg (tOp (rAddU Z.K) (tC (.int 1)) (tCallS (sp_Ltake Z) (WE W) (tCons (tVar 0) (tCons (tC (.int 16)) tNil)))) (gName 3))
    (tRet (tOp (rAddU Z.K) (tOp (rAddU Z.K) (tOp (rAddU Z.K) (tLst (tCons (tVar 3) tNil)) (tOp rRep (tLst (tCons (tC (.int 0)) (tCons (tC (.int 0)) tNil))) (tVar 3))) (tLst (tCons (tC (.int 6)) (tCons (tOp (rAddU Z.K) (tOp (rI0 fun i j => .int (i - j)) (tVar 3) (tC (.int 1))) (tVar 2)) tNil)))) (tOp rRep (tLst (tCons (tC (.int 19)) tNil)) (tOp (rI0 fun i j => .int (i - j)) (tVar 3) (tC (.int 1))))))))))))))))
def t_law (Z : Adr) (W : WX) : TS := (tSeq (tAsg (tLst (tCons (tVar 0) (tCons (tC (.int 0)) (tCons (tC (.int 0)) tNil)))) (gName 1))
    (tSeq (tAsg (tCallS (sp_Lsheet Z) (WE W) (tCons (tVar 1) (tCons (tC (.int 12)) tNil))) (gName 2))
    (tSeq (tFor (iRng1 (tCons (tC (.int 12)) tNil)) (gName 3) (tSeq (tAsg (tCallS (sp_Lbent Z) (WE W) (tCons (tVar 1) (tCons (tVar 2) tNil))) (gName 4))
    (C8.tCut (tIfS (tTest (tOp (rEqU Z.K) (tVar 3) (tC (.int 7)))) (tAsg (tSl (rSlU Z.K) (tVar 4) tNoPart (tPart (tCallS (sp_Ltake Z) (WE W) (tCons (tVar 1) (tCons (tC (.int 3)) tNil))))) (gName 4)) tNext)
    (C8.tCut (tIfS (tTest (tOp (rI0 fun i j => .bl (decide (j < i))) (tVar 3) (tC (.int 7)))) (tAsg (tCallS (sp_Ledge Z) (WE W) (tCons (tVar 1) tNil)) (gName 4)) tNext)
    (tSeq (tAsg (tCallS (sp_Lwrong Z) (WE W) (tCons (tVar 4) tNil)) (gName 5))
    (tSeq (tAsg (tCB (rListOf Z.K) (tCons (tVar 4) tNil)) (gName 6))
    (tSeq (tAsg (tCallS (sp_wrong Z) (WE W) (tCons (tVar 6) tNil)) (gName 7))
    (tSeq (tIfS (tOr (tTest (tOp (rNeU Z.K) (tVar 7) (tVar 5))) (tAnd (tTest (tOp rNotU (tVar 5) (tC .non))) (tOr (tNot (tB (tCB (rIsi2 Z.K) (tCons (tVar 7) (tCons (tC (.ty "tuple")) tNil))))) (tB (tCB (rIsi2 Z.K) (tCons (tOp (rIx Z.K) (tVar 7) (tC (.int 0))) (tCons (tC (.ty "bool")) tNil))))))) (tRet (tC (.bl false))) tNext)
    (C8.tCut (tIfS (tTest (tOp rIsU (tVar 5) (tC .non))) (tAsg (tTup (tCons (tC .non) (tCons (tC .non) tNil))) (gName 5)) tNext)
    (tSeq (tIfS (tOr (tTest (tOp (rNeU Z.K) (tCallS (sp_Lheard Z) (WE W) (tCons (tC (.int 0)) (tCons (tVar 6) tNil))) (tLst (tCons (tC (.bl true)) (tCons (tOp (rIx Z.K) (tVar 5) (tC (.int 0))) (tCons (tOp (rIx Z.K) (tVar 5) (tC (.int 1))) tNil)))))) (tTest (tOp (rNeU Z.K) (tCallS (sp_Lheard Z) (WE W) (tCons (tC (.int 1)) (tCons (tVar 6) tNil))) (tLst (tCons (tC (.bl true)) (tCons (tOp (rIx Z.K) (tVar 5) (tC (.int 0))) (tCons (tOp (rIx Z.K) (tVar 5) (tC (.int 1))) tNil))))))) (tRet (tC (.bl false))) tNext)
    (tIfS (tTest (tOp (rNeU Z.K) (tVar 6) (tVar 4))) (tRet (tC (.bl false))) tNext)))))))))))
    (tRet (tOp rIsU (tCallS (sp_wrong Z) (WE W) (tCons (tVar 2) tNil)) (tC .non))))))
end My
local macro_rules | `(tactic| walk_at "own") => `(tactic| first
  | ((with_reducible refine' My.fg_Look_numbers ?zt ?zh ?_); (case zt => with_reducible assumption); case zh => walk_at "hp")
  | ((with_reducible refine' My.fg_Look_place ?zt ?zh ?_); (case zt => with_reducible assumption); case zh => walk_at "hp")
  | ((with_reducible refine' My.ms_Look_due ?zh ?_); case zh => walk_at "hp")
  | ((with_reducible refine' My.ms_Look_within ?zh ?_); case zh => walk_at "hp"))
/-! ### the steps, tried in turn -/
local macro_rules | `(tactic| walk_at "hp") => `(tactic| first
  | with_reducible assumption
  | with_reducible exact upd_same
  | ((with_reducible refine' Z.up_new ?zn ?zq); (case zn => with_reducible assumption); case zq => walk_at "hp")
  | ((with_reducible refine' Z.up_far ?zn ?zq); (case zn => walk_at "ne"); case zq => walk_at "hp")
  | ((with_reducible refine' Z.sm_rd ?zn ?zq); (case zn => with_reducible assumption); case zq => walk_at "hp")
  | ((with_reducible refine' Z.But.rd ?zn ?zm ?zq); (case zn => with_reducible assumption); (case zm => walk_at "ne"); case zq => walk_at "hp"))
local macro_rules | `(tactic| walk_at "ne") => `(tactic| first
  | with_reducible assumption
  | ((with_reducible refine' Ne.symm ?_); with_reducible assumption)
  | ((with_reducible refine' L2.ne_of_none ?zn ?zm); (case zn => with_reducible assumption); case zm => with_reducible assumption)
  | ((with_reducible refine' Ne.symm (L2.ne_of_none ?zn ?zm)); (case zn => with_reducible assumption); case zm => with_reducible assumption))
local macro_rules | `(tactic| walk_at "sq") => `(tactic| first
  | with_reducible assumption
  | ((with_reducible refine' L2.SqL.of ?zq); case zq => walk_at "hp")
  | ((with_reducible refine' L2.SqT.of ?zq); case zq => walk_at "hp")
  | ((with_reducible refine' L2.Same.seq ?zn ?zq); (case zn => with_reducible assumption); case zq => walk_at "sq")
  | ((with_reducible refine' Z.same_sqT ?zn ?zq); (case zn => with_reducible assumption); case zq => walk_at "sq")
  | ((with_reducible refine' Z.But.sqL ?zn ?zm ?zq); (case zn => with_reducible assumption); (case zm => walk_at "ne"); case zq => walk_at "sq")
  | ((with_reducible refine' Z.But.sqT ?zn ?zm ?zq); (case zn => with_reducible assumption); (case zm => walk_at "ne"); case zq => walk_at "sq"))
local macro_rules | `(tactic| walk_at "fit") => `(tactic| first
  | (refine Nat.le_of_ble_eq_true ?_; rfl) | omega)
local macro_rules | `(tactic| walk_at "s") => `(tactic| first
  | with_reducible refine Z.s_seq ?_
  | with_reducible refine Z.s_set ?_
  | ((with_reducible refine' Z.s_var ?zh ?_); case zh => exact rfl)
  | with_reducible refine Z.s_c ?_
  | with_reducible refine Z.s_op ?_
  | with_reducible refine Z.s_cons ?_
  | with_reducible refine Z.s_nil ?_
  | with_reducible refine Z.s_cb ?_
  | with_reducible refine Z.s_callS ?_
  | with_reducible refine Z.s_rI0 ?_
  | with_reducible refine Z.s_add_i ?_
  | with_reducible refine Z.s_test ?_
  | with_reducible refine Z.s_zB ?_
  | with_reducible refine Z.s_if ?_
  | with_reducible refine Z.s_ret ?_
  | with_reducible refine Z.s_next ?_
  | with_reducible refine Z.s_drop ?_
  | with_reducible refine Z.s_eq_i ?_
  | with_reducible refine Z.s_ne_i ?_
  | with_reducible refine Z.s_eq_s ?_
  | with_reducible refine Z.s_ne_s ?_
  | with_reducible refine Z.s_and ?_
  | with_reducible refine Z.s_or ?_
  | with_reducible refine Z.s_not ?_
  | with_reducible refine Z.s_chain ?_
  | with_reducible refine Z.s_B ?_
  | with_reducible refine Z.s_tup ?_
  | with_reducible refine Z.s_lst ?_
  | ((with_reducible refine' Z.s_ztup ?zh ?_); case zh => exact rfl)
  | ((with_reducible refine' Z.s_zlst ?zh ?_); case zh => exact rfl)
  | with_reducible refine Z.s_un ?_
  | with_reducible refine Z.s_rU ?_
  | with_reducible refine Z.s_p18 ?_
  | with_reducible refine Z.s_min2 ?_
  | with_reducible refine Z.s_max2 ?_
  | with_reducible refine Z.s_abs ?_
  | with_reducible refine Z.s_int1 ?_
  | with_reducible refine Z.s_int1b ?_
  | with_reducible refine Z.s_bm ?_
  | with_reducible refine Z.s_bm0 ?_
  | with_reducible refine Z.s_fld ?_
  | with_reducible refine Z.s_dget ?_
  | with_reducible refine Z.s_din ?_
  | with_reducible refine Z.s_dnotin ?_
  | with_reducible refine Z.s_dnew ?_
  | with_reducible refine Z.s_dput ?_
  | with_reducible refine Z.s_disp ?_
  | with_reducible refine Z.s_asg ?_
  | with_reducible refine Z.s_gname ?_
  | with_reducible refine Z.s_gsub ?_
  | with_reducible refine Z.s_gcons ?_
  | with_reducible refine Z.s_gnil ?_
  | with_reducible refine Z.s_for ?_
  | with_reducible refine Z.s_rng1 ?_
  | with_reducible refine Z.s_rng2 ?_
  | with_reducible refine Z.s_itl ?_
  | with_reducible refine Z.s_itt ?_
  | with_reducible refine Z.s_isU_n ?_
  | with_reducible refine Z.s_notU_n ?_
  | with_reducible refine Z.s_isU_b ?_
  | with_reducible refine Z.s_notU_b ?_
  | with_reducible refine Z.s_isN_i ?_
  | with_reducible refine Z.s_isN_r ?_
  | with_reducible refine Z.s_isN_s ?_
  | with_reducible refine Z.s_isN_n ?_
  | with_reducible refine Z.s_notN_i ?_
  | with_reducible refine Z.s_notN_r ?_
  | with_reducible refine Z.s_notN_s ?_
  | with_reducible refine Z.s_notN_n ?_
  | with_reducible refine Z.s_slL ?_
  | with_reducible refine Z.s_nopart ?_
  | with_reducible refine Z.s_part ?_
  | with_reducible refine Z.s_zpart ?_
  | ((with_reducible refine' Z.s_cutL ?zh ?_); case zh => walk_at "sq")
  | with_reducible refine Z.s_ift ?_
  | with_reducible refine Z.s_iff ?_
  | with_reducible refine Z.s_nt ?_
  | with_reducible refine Z.s_nf ?_
  | with_reducible refine Z.s_zbody ?_
  | with_reducible refine Z.s_lc ?_
  | with_reducible refine Z.s_yes ?_
  | ((with_reducible refine Z.s_wipe ?zh ?_); case zh => rfl)
  | ((with_reducible refine' Z.s_zitl ?zh ?_); case zh => walk_at "sq")
  | ((with_reducible refine' Z.s_zitt ?zh ?_); case zh => walk_at "sq")
  | with_reducible refine Z.s_ifE ?_
  | with_reducible refine Z.s_andV ?_
  | with_reducible refine Z.s_orV ?_
  | with_reducible refine Z.s_notV ?_
  | with_reducible refine Z.s_retN ?_
  | with_reducible refine Z.s_break ?_
  | with_reducible refine Z.s_cont ?_
  | ((with_reducible refine Z.s_zrng1 ?zh ?_); case zh => omega)
  | ((with_reducible refine Z.s_zrng2 ?zh ?_); case zh => omega)
  | ((with_reducible refine Z.s_modp ?zh ?_); case zh => omega)
  | ((with_reducible refine Z.s_fdvp ?zh ?_); case zh => omega)
  | ((with_reducible refine Z.s_mulp ?zh ?_); case zh => omega)
  | ((with_reducible refine' Z.s_len_l ?zh ?_); case zh => walk_at "sq")
  | ((with_reducible refine' Z.s_len_t ?zh ?_); case zh => walk_at "sq")
  | ((with_reducible refine' Z.s_zTyL ?zh ?_); case zh => walk_at "hp")
  | with_reducible refine Z.s_meth ?_
  | with_reducible refine Z.s_make ?_
  | with_reducible refine Z.s_fldset ?_
  | with_reducible refine Z.s_rev ?_
  | ((with_reducible refine' Z.s_zrev ?zh ?_); case zh => walk_at "sq")
  | with_reducible refine Z.s_lstRg ?_
  | with_reducible refine Z.isi_int ?_
  | with_reducible refine Z.isi_int_bool ?_
  | ((with_reducible refine' Z.isi_list ?zh ?_); case zh => walk_at "sq")
  | ((with_reducible refine' Z.isi_tup ?zh ?_); case zh => walk_at "sq")
  | walk_at "own"
  | with_reducible refine Z.s_zTyS ?_
  | ((with_reducible refine' Z.s_zTyL' ?zh ?_); case zh => walk_at "sq")
  | ((with_reducible refine' Z.s_listof_l ?zh ?_); case zh => walk_at "sq")
  | ((with_reducible refine' Z.s_listof_t ?zh ?_); case zh => walk_at "sq")
  | ((with_reducible refine' Z.s_tupof_l ?zh ?_); case zh => walk_at "sq")
  | ((with_reducible refine' Z.s_tupof_t ?zh ?_); case zh => walk_at "sq")
  | ((with_reducible refine' Z.s_gun_t ?zh ?zl ?_); (case zh => walk_at "sq"); case zl => rfl)
  | ((with_reducible refine' Z.s_gun_l ?zh ?zl ?_); (case zh => walk_at "sq"); case zl => rfl))
local macro_rules | `(tactic| walk_at "zz") => `(tactic| repeat (walk_at "s"))
/-! ### pens and frames -/
local macro_rules | `(tactic| walk_at "st") => `(tactic| first
  | with_reducible assumption
  | ((with_reducible refine' Z.Pn.new ?zs ?zn); (case zn => with_reducible assumption); case zs => walk_at "st")
  | ((with_reducible refine' Z.Pn.same ?zs ?zn); (case zn => with_reducible assumption); case zs => walk_at "st")
  | ((with_reducible refine' Z.Pn.butN ?zs ?zb ?zn); (case zb => with_reducible assumption); (case zn => walk_at "np"); case zs => walk_at "st"))
local macro_rules | `(tactic| walk_at "np") => `(tactic| first
  | with_reducible assumption
  | ((with_reducible refine' Ne.symm ?_); with_reducible assumption)
  | ((with_reducible refine' Z.Pn.ne ?zs ?zn); (case zn => with_reducible assumption); case zs => walk_at "st")
  | ((with_reducible refine' Ne.symm (Z.Pn.ne ?zs ?zn)); (case zn => with_reducible assumption); case zs => walk_at "st")
  | ((with_reducible refine' L2.ne_of_none ?zn ?zm); (case zm => with_reducible assumption); case zn => walk_at "hp")
  | ((with_reducible refine' Ne.symm (L2.ne_of_none ?zn ?zm)); (case zm => with_reducible assumption); case zn => walk_at "hp"))
local macro_rules | `(tactic| walk_at "no") => `(tactic| first
  | with_reducible assumption
  | ((with_reducible refine' L2.Same.free ?zs ?zn); (case zn => with_reducible assumption); case zs => walk_at "sm")
  | ((with_reducible refine' Z.But.none ?zs ?zm ?zn); (case zn => with_reducible assumption); (case zs => walk_at "bt"); case zm => walk_at "np"))
local macro_rules | `(tactic| walk_at "sm") => `(tactic| first
  | with_reducible assumption
  | ((with_reducible refine' Z.same_new ?zn); (case zn => with_reducible assumption))
  | ((with_reducible refine' L2.Same.trans ?zs (Z.same_new ?zn)); (case zn => with_reducible assumption); case zs => walk_at "sm")
  | ((with_reducible refine' Z.same_own ?zs ?zb ?zn); (case zb => with_reducible assumption); (case zs => walk_at "sm"); case zn => walk_at "no")
  | ((with_reducible refine' L2.Same.trans ?zs ?zn); (case zn => with_reducible assumption); case zs => walk_at "sm")
  | with_reducible exact L2.Same.refl _)
local macro_rules | `(tactic| walk_at "bt") => `(tactic| first
  | with_reducible assumption
  | ((with_reducible refine' Z.But.new ?zs ?zn); (case zn => with_reducible assumption); case zs => walk_at "bt")
  | ((with_reducible refine' Z.But.trans ?zs ?zn); (case zn => with_reducible assumption); case zs => walk_at "bt")
  | ((with_reducible refine' Z.But.trans ?zs (Z.But.of ?zn)); (case zn => with_reducible assumption); case zs => walk_at "bt")
  | ((with_reducible refine' Z.But.own ?zs ?zb ?zn); (case zb => with_reducible assumption); (case zs => walk_at "bt"); case zn => walk_at "no")
  | with_reducible exact Z.But.refl _ _)
local macro_rules | `(tactic| walk_at "tk") => `(tactic| first
  | ((with_reducible refine' My.c_take ?zm ?zs ?_); (case zm => omega); (case zs => walk_at "st")))
/-! ### nodes in a law's text -/
local macro_rules | `(tactic| walk_at "ow") => `(tactic| first
  | exact My.own5
  | exact My.own7
  | exact My.own8 (by omega) rfl
  | exact My.own0 (by first | assumption | exact My.fig_sm (by omega))
  | exact My.own1 (by omega)
  | exact My.own2 (by omega)
  | exact My.own3 (by omega) rfl
  | exact My.own4 (m := 2) (by omega) rfl
  | exact My.own4 (m := 3) (by omega) rfl
  | exact My.own6 (n := 0) rfl rfl rfl
  | exact My.own6 (n := 1) rfl rfl rfl)
local macro_rules | `(tactic| walk_at "bi") => `(tactic| first
  | ((with_reducible refine' My.bi_nil ?zo); case zo => walk_at "ow")
  | ((with_reducible refine' My.bi_c ?zo); case zo => walk_at "ow")
  | ((with_reducible refine' My.bi_neg ?zo); case zo => walk_at "ow")
  | ((refine' My.bi_v rfl ?zo); case zo => walk_at "ow")
  | ((refine' My.bi_take rfl ?zd ?zo); (case zd => decide); case zo => (intro z z0 z1; walk_at "ow"))
  | ((refine' My.bi_num rfl ?zo); case zo => (intro z hz; exact My.own0 hz)))
local macro_rules | `(tactic| walk_at "bp") => `(tactic| first
  | with_reducible exact My.bp_nil
  | ((with_reducible refine' My.bp_cons ?zd ?zp); (case zd => walk_at "bd"); case zp => walk_at "bp"))
local macro_rules | `(tactic| walk_at "bd") => `(tactic| first
  | assumption
  | exact My.bd_var rfl (by assumption) (by assumption) (by assumption) (by omega) (by assumption)
  | ((with_reducible refine' My.bd_node (by assumption) (by decide) ?zo ?zp); (case zp => walk_at "bp"); case zo => walk_at "bi")
  | ((with_reducible refine' My.bd_loop (by assumption) ?zo ?zp); (case zp => walk_at "bp"); case zo => walk_at "bi"))
local macro_rules | `(tactic| walk_at "zn") => `(tactic| repeat ((fail_if_success (with_reducible refine Z.s_tup ?_)); walk_at "s"))
namespace My
open PySem L2 Z
theorem rd_NoSheet_init {Z : Adr} (T : Top Z) {a0 a1 a2 : V} {H : Hp} {Q : VK} {E : XK} (h : q_NoSheet_init Z a0 a1 a2 H Q E) : t_NoSheet_init Z (fun cls d _ H => E cls d H) ⟨fun _ H' => Q .non H', Q, fun _ _ => False, fun _ _ => False⟩ [some a0, some a1, some a2] H := by
  unfold t_NoSheet_init
  obtain ⟨p, rfl, hp, q⟩ := h
  walk_at "zz"
  refine s_vei ?_
  walk_at "zz"
  refine ⟨p, Z.c_NoSheet, [_], rfl, by show 1 ≤ 1000; decide, T.ox_NoSheet, hp, ?_⟩
  walk_at "zz"
  refine s_ost ?_
  walk_at "zz"
  refine ⟨p, Z.c_NoSheet, rfl, T.ox_NoSheet, T.na_NoSheet_place, .inl ⟨hp, fun d hd hdp => ?_⟩⟩
  refine s_ost ?_
  walk_at "zz"
  refine ⟨p, Z.c_NoSheet, rfl, T.ox_NoSheet, T.na_NoSheet_word, .inr ⟨d, _, upd_same, by rw [upd_ne hdp]; exact upd_same, by show 1 ≤ 900; decide, ?_⟩⟩
  exact q d hd hdp

theorem rd_parts_of {Z : Adr} (T : Top Z) {a0 : V} {H : Hp} {Q : VK} {E : XK} (h : q_parts_of Z a0 H Q E) : t_parts_of Z (fun cls d _ H => E cls d H) ⟨fun _ H' => Q .non H', Q, fun _ _ => False, fun _ _ => False⟩ [some a0] H := by
  unfold t_parts_of
  obtain ⟨i, rfl, q⟩ := h
  unfold manyP at q
  walk_at "zz"
  refine s_ifd (fun c => ?_) (fun c => ?_)
  · rw [if_pos c] at q
    walk_at "zz"
    exact q _ (Same.refl H)
  · rw [if_neg c] at q
    walk_at "zz"
    intro t ht
    walk_at "zz"
    refine s_in_t (SqT.of upd_same) rfl rfl ?_
    walk_at "zz"
    have S := same_new (o := .tup [.int 7, .int 18]) ht
    have e : inV (.int i) [.int 7, .int 18] = decide (i = 7 ∨ i = 18) := by
      simp only [inV, List.any, eqV, Bool.or_false]
      rw [Bool.decide_or]
      congr 1 <;> (rw [Bool.eq_iff_iff]; simp; omega)
    rw [e]
    refine s_ifd (fun c => ?_) (fun c => ?_)
    · rw [if_pos c] at q
      walk_at "zz"
      exact q _ S
    · rw [if_neg c] at q
      walk_at "zz"
      refine s_ifd (fun c => ?_) (fun c => ?_)
      · rw [if_pos c] at q
        walk_at "zz"
        exact q _ S
      · rw [if_neg c] at q
        walk_at "zz"
        exact q _ S

theorem rd_Look_init {Z : Adr} (T : Top Z) {a0 a1 : V} {H : Hp} {Q : VK} {E : XK} (h : q_Look_init Z a0 a1 H Q E) : t_Look_init Z (fun cls d _ H => E cls d H) ⟨fun _ H' => Q .non H', Q, fun _ _ => False, fun _ _ => False⟩ [some a0, some a1] H := by
  unfold t_Look_init
  obtain ⟨p, dx, a, xs, rfl, rfl, hp, hs, q⟩ := h
  walk_at "zz"
  intro l hl
  walk_at "zz"
  have np : p ≠ l := ne_of_none hp hl
  refine fn_Look_numbers T (up_far np hp) fun H1 B1 hp1 => ?_
  have hl1 := B1.rd np.symm (upd_same (H := H) (a := l) (o := .lst (xs.map V.int)))
  walk_at "zz"
  refine fn_Look_place T hp1 fun H2 B2 hp2 => ?_
  walk_at "zz"
  exact q l _ (((But.refl p H).new hl).trans (B1.trans B2)) ⟨hp2, B2.rd np.symm hl1⟩ hl

theorem rd_Look_due {Z : Adr} (T : Top Z) {a0 : V} {H : Hp} {Q : VK} {E : XK} (h : q_Look_due Z a0 H Q E) : t_Look_due Z (fun cls d _ H => E cls d H) ⟨fun _ H' => Q .non H', Q, fun _ _ => False, fun _ _ => False⟩ [some a0] H := by
  unfold t_Look_due
  obtain ⟨p, dx, l, xs, k, rfl, hkl, L, q, qe⟩ := h
  have hp := L.o
  have hl := L.n
  walk_at "zz"
  cases e : dueP xs k with
  | error er =>
    obtain ⟨rfl, hk⟩ := dueP_err e
    refine s_ifdt (by rw [List.length_map]; omega) ?_
    refine s_raiseO ?_
    walk_at "zz"
    exact raise_NoSheet (Z := Z) (W := fun cls d _ H' => E cls d H') (σ := []) fun d H' S x => qe _ e d H' (But.of S) x
  | ok v =>
    have e' := dueP_ok e
    have hk := (List.getElem?_eq_some_iff.mp e').1
    refine s_ifdf (by rw [List.length_map]; omega) ?_
    walk_at "zz"
    refine fp_Look_place T hp fun H1 B1 hp1 => ?_
    have L1 : LookAt Z H1 p dx l xs (k + 1) := L.go B1 hp1
    have hl1 := L1.n
    walk_at "zz"
    refine s_ix_l (SqL.of hl1) (at_of (j := k) (v := .int v) (by omega) (by rw [List.getElem?_map, e']; rfl)) ?_
    exact q v e _ B1 L1

theorem rd_Look_within {Z : Adr} (T : Top Z) {a0 a1 a2 : V} {H : Hp} {Q : VK} {E : XK} (h : q_Look_within Z a0 a1 a2 H Q E) : t_Look_within Z (fun cls d _ H => E cls d H) ⟨fun _ H' => Q .non H', Q, fun _ _ => False, fun _ _ => False⟩ [some a0, some a1, some a2, none] H := by
  unfold t_Look_within
  obtain ⟨p, dx, l, xs, k, a, b, rfl, rfl, rfl, hkl, L, q, qe⟩ := h
  have hp := L.o
  walk_at "zz"
  refine cl_Look_due ⟨p, dx, l, xs, k, rfl, hkl, L, fun v ev H1 B1 L1 => ?_, fun er ee => qe er (bindR_of_err ee)⟩
  have hp1 := L1.o
  by_cases c : a ≤ v ∧ v ≤ b
  · walk_at "zz"
    refine s_ifdt c.1 ?_
    walk_at "zz"
    rw [decide_eq_true c.2]
    walk_at "zz"
    exact q v (by unfold withinP; rw [bindR_of ev, if_pos c]) _ B1 L1
  · have er : withinP xs k a b = .error ((k : Int), ("range" : Str)) := by unfold withinP; rw [bindR_of ev, if_neg c]
    walk_at "zz"
    have fin : zMkO Z.c_NoSheet (sp_NoSheet_init Z) [.int (((k + 1 : Nat) : Int) - 1), .str "range"] H1 fun cls d H' => E cls d H' := by
      rw [show ((k + 1 : Nat) : Int) - 1 = (k : Int) by omega]
      exact raise_NoSheet (W := fun cls d _ H' => E cls d H') (σ := []) fun d H' S x => qe _ er d H' (B1.trans (But.of S)) x
    refine s_ifd (fun c1 => ?_) (fun c1 => ?_)
    · walk_at "zz"
      rw [decide_eq_false (fun z => c ⟨c1, z⟩)]
      walk_at "zz"
      refine s_raiseO ?_
      walk_at "zz"
      exact fin
    · walk_at "zz"
      refine s_raiseO ?_
      walk_at "zz"
      exact fin

theorem rd_heads_in {Z : Adr} (T : Top Z) {a0 : V} {H : Hp} {Q : VK} {E : XK} (h : q_heads_in Z a0 H Q E) : t_heads_in Z (fun cls d _ H => E cls d H) ⟨fun _ H' => Q .non H', Q, fun _ _ => False, fun _ _ => False⟩ [some a0, none, none, none] H := by
  unfold t_heads_in
  obtain ⟨p, dx, l, xs, rfl, L, q, qe⟩ := h
  walk_at "zz"
  intro lh hlh
  have L0 := L.new (o := .lst []) hlh
  have hp := L0.o
  have nlp : lh ≠ p := (ne_of_none L.o hlh).symm
  have nll : l ≠ lh := ne_of_none L.n hlh
  have B00 : But p H (upd H lh (.lst [])) := (But.refl p H).new hlh
  walk_at "zz"
  refine cl_Look_within ⟨p, dx, l, xs, 0, 1, 16, rfl, rfl, rfl, Nat.zero_le _, L0, fun n en H1 B1 L1 => ?_, fun er ee => (show ErrS Z p H er E from qe er (bindR_of_err ee)).trans B00⟩
  obtain ⟨e0, n1, n2⟩ := withinP_ok en
  have k1 := (List.getElem?_eq_some_iff.mp e0).1
  have eh : headsP xs = headsL xs n.toNat := by unfold headsP; rw [bindR_of en]
  have hl1 := B1.rd nlp (upd_same (H := H) (a := lh) (o := .lst []))
  have B01 : But p H H1 := B00.trans B1
  walk_at "zz"
  refine loop_range (fun i σ' H' => LookAt Z H' p dx l xs (1 + 2 * i) ∧ But p H H' ∧ 1 + 2 * i ≤ xs.length ∧ ∃ r vs x2 x3, headsL xs i = .ok r ∧ H' lh = some (.lst vs) ∧ PairsAt H' r vs ∧ σ' = [some (.ref p), some (.ref lh), x2, x3]) ⟨L1, B01, k1, [], [], _, _, rfl, hl1, rfl, rfl⟩ ?_ ?_
  · rintro i σ' H2 hi ⟨L2, B2, k2, r, vs, x2, x3, er, hv, hP, rfl⟩
    have hp2 := L2.o
    have len := headsL_len er
    have err : ∀ e, headsL xs (i + 1) = .error e → headsP xs = .error e := fun e h => by rw [eh]; exact headsL_err h hi
    walk_at "zz"
    refine cl_Look_within ⟨p, dx, l, xs, _, 0, (if 0 < i then 4 else 0), rfl, rfl, ?_, k2, L2, fun pa ep H3 B3 L3 => ?_, fun e ee => (show ErrS Z p H e E from qe e (err e (by unfold headsL; rw [bindR_of er]; exact bindR_of_err ee))).trans B2⟩
    · congr 1
      by_cases c : 0 < i
      · rw [if_pos c, if_pos (decide_eq_true (by omega))]; rfl
      · rw [if_neg c, if_neg (by simp; omega)]; rfl
    have hp3 := L3.o
    have k3 := (List.getElem?_eq_some_iff.mp (withinP_ok ep).1).1
    walk_at "zz"
    refine cl_Look_within ⟨p, dx, l, xs, _, pa, 12, rfl, rfl, rfl, k3, L3, fun b eb H4 B4 L4 => ?_, fun e ee => (show ErrS Z p H e E from qe e (err e (by unfold headsL; rw [bindR_of er, bindR_of ep]; refine bindR_of_err ?_; rw [show 2 + 2 * i = 1 + 2 * i + 1 by omega]; exact ee))).trans (B2.trans B3)⟩
    have k4 := (List.getElem?_eq_some_iff.mp (withinP_ok eb).1).1
    have er2 : headsL xs (i + 1) = .ok (r ++ [(pa, b)]) := by unfold headsL; rw [bindR_of er, bindR_of ep, bindR_of (by rw [show 2 + 2 * i = 1 + 2 * i + 1 by omega]; exact eb)]
    have T34 : TupS H2 H4 := (L2.tups B3).trans (L3.tups B4)
    have hv4 := B4.rd nlp (B3.rd nlp hv)
    walk_at "zz"
    intro t ht
    walk_at "zz"
    have nt : lh ≠ t := ne_of_none hv4 ht
    refine c_append (up_new ht hv4) (small1000 (by rw [hP.len, len]; omega)) fun H5 B5 h5 => ?_
    have T5 : TupS (upd H4 t (.tup [.int pa, .int b])) H5 := TupS.but B5 (up_new ht hv4) fun ys e => by cases e
    walk_at "zz"
    refine ⟨?_, (((B2.trans B3).trans B4).new ht).own B5 hlh, by omega, _, _, _, _, er2, h5, ((hP.mono (T34.trans (TupS.new ht))).mono T5).app (T5 _ _ upd_same), rfl⟩
    have := (L4.new (o := .tup [.int pa, .int b]) ht).own B5 nlp.symm nll
    rwa [show 1 + 2 * i + 1 + 1 = 1 + 2 * (i + 1) by omega] at this
  · rintro σ' H2 ⟨L2, B2, k2, r, vs, x2, x3, er, hv, hP, rfl⟩
    have len := headsL_len er
    walk_at "zz"
    exact q r (by rw [eh]; exact er) _ _ _ B2 (by rw [len]; exact L2) hlh hv hP

theorem rd_own_numbers {Z : Adr} (T : Top Z) {a0 a1 a2 a3 : V} {H : Hp} {Q : VK} {E : XK} (h : q_own_numbers Z a0 a1 a2 a3 H Q E) : t_own_numbers Z (fun cls d _ H => E cls d H) ⟨fun _ H' => Q .non H', Q, fun _ _ => False, fun _ _ => False⟩ [some a0, some a1, some a2, some a3, none, none] H := by
  unfold t_own_numbers
  obtain ⟨p, dx, l, xs, k, lh, hs, vs, bx, kind, rfl, rfl, rfl, rfl, hkl, L, hlh, hP, q, qe⟩ := h
  have nlp : lh ≠ p := L.lst hlh
  have hp := L.o
  have fin : ∀ {H1 : Hp} {ns : List Int} {m : Int} {j : Nat}, But p H H1 → LookAt Z H1 p dx l xs j → ownP xs hs bx kind k = .ok (ns, m, j) → ∀ tn, H1 tn = none → ∀ t, upd H1 tn (.tup (ns.map V.int)) t = none → Q (.ref t) (upd (upd H1 tn (.tup (ns.map V.int))) t (.tup [.ref tn, .int m])) := by
    intro H1 ns m j B L1 eo tn htn t ht
    exact q _ eo t tn _ ((B.new htn).new ht) ((L1.new htn).new ht) upd_same (up_new ht upd_same)
  walk_at "zz"
  refine s_ifd (fun c0 => ?_) (fun c0 => ?_)
  · skip
    walk_at "zz"
    refine cl_Look_due ⟨p, dx, l, xs, k, rfl, hkl, L, fun v e1 H1 B1 L1 => ?_, fun er ee => qe er (by unfold ownP; rw [if_pos c0]; exact bindR_of_err ee)⟩
    walk_at "zz"
    intro tn htn
    walk_at "zz"
    intro t ht
    exact fin (ns := [v]) B1 L1 (by unfold ownP; rw [if_pos c0]; exact bindR_of e1) tn htn t ht
  walk_at "zz"
  refine s_ifd (fun c1 => ?_) (fun c1 => ?_)
  · skip
    walk_at "zz"
    refine cl_Look_within ⟨p, dx, l, xs, k, _, _, rfl, rfl, rfl, hkl, L, fun v e1 H1 B1 L1 => ?_, fun er ee => qe er (by unfold ownP; rw [if_neg c0, if_pos c1]; exact bindR_of_err ee)⟩
    walk_at "zz"
    intro tn htn
    walk_at "zz"
    intro t ht
    exact fin (ns := [v]) B1 L1 (by unfold ownP; rw [if_neg c0, if_pos c1]; exact bindR_of e1) tn htn t ht
  walk_at "zz"
  refine s_ifd (fun c2 => ?_) (fun c2 => ?_)
  · skip
    walk_at "zz"
    refine cl_Look_within ⟨p, dx, l, xs, k, _, _, rfl, rfl, rfl, hkl, L, fun v e1 H1 B1 L1 => ?_, fun er ee => qe er (by unfold ownP; rw [if_neg c0, if_neg c1, if_pos c2]; exact bindR_of_err ee)⟩
    walk_at "zz"
    intro tn htn
    walk_at "zz"
    intro t ht
    exact fin (ns := [v]) B1 L1 (by unfold ownP; rw [if_neg c0, if_neg c1, if_pos c2]; exact bindR_of e1) tn htn t ht
  walk_at "zz"
  refine s_ifd (fun c3 => ?_) (fun c3 => ?_)
  · skip
    walk_at "zz"
    refine cl_Look_within ⟨p, dx, l, xs, k, _, _, rfl, rfl, rfl, hkl, L, fun v e1 H1 B1 L1 => ?_, fun er ee => qe er (by unfold ownP; rw [if_neg c0, if_neg c1, if_neg c2, if_pos c3]; exact bindR_of_err ee)⟩
    walk_at "zz"
    intro tn htn
    walk_at "zz"
    intro t ht
    exact fin (ns := [v]) B1 L1 (by unfold ownP; rw [if_neg c0, if_neg c1, if_neg c2, if_pos c3]; exact bindR_of e1) tn htn t ht
  walk_at "zz"
  refine s_ifd (fun c4 => ?_) (fun c4 => ?_)
  · skip
    walk_at "zz"
    refine cl_Look_within ⟨p, dx, l, xs, k, _, _, rfl, rfl, rfl, hkl, L, fun v e1 H1 B1 L1 => ?_, fun er ee => qe er (by unfold ownP; rw [if_neg c0, if_neg c1, if_neg c2, if_neg c3, if_pos c4]; exact bindR_of_err ee)⟩
    walk_at "zz"
    intro tn htn
    walk_at "zz"
    intro t ht
    exact fin (ns := [v]) B1 L1 (by unfold ownP; rw [if_neg c0, if_neg c1, if_neg c2, if_neg c3, if_pos c4]; exact bindR_of e1) tn htn t ht
  walk_at "zz"
  refine s_ifd (fun c5 => ?_) (fun c5 => ?_)
  · skip
    walk_at "zz"
    rw [hP.len]
    refine cl_Look_within ⟨p, dx, l, xs, k, _, _, rfl, rfl, rfl, hkl, L, fun v e1 H1 B1 L1 => ?_, fun er ee => qe er (by unfold ownP; rw [if_neg c0, if_neg c1, if_neg c2, if_neg c3, if_neg c4, if_pos c5]; exact bindR_of_err ee)⟩
    obtain ⟨_, v0, v1⟩ := withinP_ok e1
    have hlh1 := B1.rd nlp hlh
    have hP1 := hP.mono (L.tups B1)
    have hv : v.toNat < hs.length := by omega
    have eh : hs[v.toNat]? = some (hs.getD v.toNat (0, 0)) := by rw [List.getD_eq_getElem?_getD, List.getElem?_eq_getElem hv]; rfl
    obtain ⟨t6, et, ht6⟩ := hP1.get eh
    walk_at "zz"
    intro tn htn
    walk_at "zz"
    refine s_ix_l (SqL.of (up_new htn hlh1)) (at_of (j := v.toNat) (v := .ref t6) (by omega) et) ?_
    walk_at "zz"
    refine s_ix_t (SqT.of (up_new htn ht6)) (v := .int (hs.getD v.toNat (0, 0)).1) rfl ?_
    walk_at "zz"
    intro t ht
    exact fin (ns := [v]) B1 L1 (by unfold ownP; rw [if_neg c0, if_neg c1, if_neg c2, if_neg c3, if_neg c4, if_pos c5]; exact bindR_of e1) tn htn t ht
  walk_at "zz"
  refine s_ifd (fun c6 => ?_) (fun c6 => ?_)
  · skip
    walk_at "zz"
    intro tn htn
    walk_at "zz"
    intro t ht
    exact fin (ns := []) (But.refl p H) L (by unfold ownP; rw [if_neg c0, if_neg c1, if_neg c2, if_neg c3, if_neg c4, if_neg c5, if_pos c6]) tn htn t ht
  walk_at "zz"
  intro tn htn
  walk_at "zz"
  refine cl_parts_of ⟨kind, rfl, fun H2 S2 => ?_⟩
  walk_at "zz"
  intro t ht
  exact q ([], manyP kind, k) (by unfold ownP; rw [if_neg c0, if_neg c1, if_neg c2, if_neg c3, if_neg c4, if_neg c5, if_neg c6]) t tn _ ((((But.refl p H).new htn).trans (But.of S2)).new ht) (((L.new htn).same S2).new ht) upd_same (up_new ht (S2 _ _ upd_same))

theorem rd_node_in {Z : Adr} (T : Top Z) {n : Nat} {a0 a1 a2 a3 : V} {H : Hp} {Q : VK} {E : XK} (h : q_node_in Z (n + 1) a0 a1 a2 a3 H Q E) : t_node_in Z n (fun cls d _ H => E cls d H) ⟨fun _ H' => Q .non H', Q, fun _ _ => False, fun _ _ => False⟩ [some a0, some a1, some a2, some a3, none, none, none, none, none, none] H := by
  unfold t_node_in
  obtain ⟨p, dx, l, xs, k, lh, hs, vs, bx, d, f, rfl, rfl, rfl, rfl, hd, hf, hB, hkl, L, hlh, hP, q, qe⟩ := h
  have nlp : lh ≠ p := L.lst hlh
  have hp := L.o
  cases f with
  | zero =>
    walk_at "zz"
    refine s_ifdt (by omega) ?_
    refine s_raiseO ?_
    walk_at "zz"
    exact raise_NoSheet (Z := Z) (W := fun cls d _ H' => E cls d H') (σ := []) fun d' H' S x => qe ((k : Int), ("deep" : Str)) rfl d' H' (But.of S) x
  | succ f =>
  walk_at "zz"
  refine s_ifdf (by omega) ?_
  walk_at "zz"
  refine cl_Look_within ⟨p, dx, l, xs, k, 0, 19, rfl, rfl, rfl, hkl, L, fun kind e1 H1 B1 L1 => ?_, fun er ee => qe er (bindR_of_err ee)⟩
  have hlh1 := B1.rd nlp hlh
  have hP1 := hP.mono (L.tups B1)
  have hk1 := (List.getElem?_eq_some_iff.mp (withinP_ok e1).1).1
  walk_at "zz"
  refine cl_own_numbers ⟨p, dx, l, xs, k + 1, lh, hs, vs, bx, kind, rfl, rfl, rfl, rfl, hk1, L1, hlh1, hP1, fun o eo t tn H2 B2 L2 ht htn => ?_, fun er ee => (show ErrS Z p H er E from qe er (by unfold nodeP; rw [bindR_of e1]; exact bindR_of_err ee)).trans B1⟩
  have hlh2 := B2.rd nlp hlh1
  have hP2 := hP1.mono (L1.tups B2)
  have ole := ownP_le eo
  have step : nodeP xs hs bx (f + 1) k = bindR (partsP (nodeP xs hs bx f) o.2.1.toNat o.2.2) fun p => .ok (.mk kind k o.1 p.1, p.2) := by
    unfold nodeP
    rw [bindR_of e1, bindR_of eo]
  refine s_gun_t (SqT.of ht) rfl ?_
  walk_at "zz"
  intro lp hlp
  have nlp2 : lp ≠ p := (ne_of_none L2.o hlp).symm
  have nll : l ≠ lp := ne_of_none L2.n hlp
  have ov := ownP_most hB eo
  walk_at "zz"
  refine loop_range (fun i σ' H' => ∃ (r : List Nd × Nat) (ws : List V) (x : Option V), LookAt Z H' p dx l xs r.2 ∧ But p H H' ∧ r.2 ≤ xs.length ∧ partsP (nodeP xs hs bx f) i o.2.2 = .ok r ∧ H' lp = some (.lst ws) ∧ NodesAt H' r.1 ws ∧ H' lh = some (.lst vs) ∧ PairsAt H' hs vs ∧ H' tn = some (.tup (o.1.map V.int)) ∧
    σ' = [some (.ref p), some (.ref lh), some (.int bx), some (.int d), some (.int k), some (.int kind), some (.ref tn), some (.int o.2.1), some (.ref lp), x]) ⟨([], o.2.2), [], _, L2.new hlp, (B1.trans B2).new hlp, by show o.2.2 ≤ _; omega, rfl, upd_same, rfl, up_new hlp hlh2, hP2.mono (TupS.new hlp), up_new hlp htn, rfl⟩ ?_ ?_
  · rintro i σ' H3 hi ⟨r, ws, x, L3, B3, hk3, er, hw, hN, hlh3, hP3, htn3, rfl⟩
    walk_at "zz"
    refine cl_node_in ⟨p, dx, l, xs, r.2, lh, hs, vs, bx, d + 1, f, rfl, rfl, rfl, rfl, by omega, by omega, hB, hk3, L3, hlh3, hP3, fun b eb v H4 B4 L4 hv4 => ?_,
      fun e ee => (show ErrS Z p H e E from qe e (by rw [step]; refine bindR_of_err (partsP_err (i := i + 1) ?_ hi); unfold partsP; rw [bindR_of er]; exact bindR_of_err ee)).trans B3⟩
    have T4 := L3.tups B4
    have hw4 := B4.rd nlp2 hw
    have nlh : lh ≠ lp := ne_of_none hlh2 hlp
    have er2 : partsP (nodeP xs hs bx f) (i + 1) o.2.2 = .ok (r.1 ++ [b.1], b.2) := by unfold partsP; rw [bindR_of er, bindR_of eb]
    walk_at "zz"
    refine c_append hw4 (small1000 (by rw [hN.len, partsP_len er]; omega)) fun H5 B5 h5 => ?_
    have T5 : TupS H4 H5 := TupS.but B5 hw4 fun ys e => by cases e
    walk_at "zz"
    exact ⟨_, _, _, L4.own B5 nlp2.symm nll, (B3.trans B4).own B5 ((B1.trans B2).none nlp2 hlp), (nodeP_le eb).2, er2, h5, ((hN.mono T4).mono T5).app (hv4.mono T5), B5.rd nlh (B4.rd nlp hlh3), (hP3.mono T4).mono T5, T5 _ _ (T4 _ _ htn3), rfl⟩
  · rintro σ' H3 ⟨r, ws, x, L3, B3, hk3, er, hw, hN, hlh3, hP3, htn3, rfl⟩
    walk_at "zz"
    intro tp htp
    walk_at "zz"
    intro t2 ht2
    refine q (.mk kind k o.1 r.1, r.2) (by rw [step, bindR_of er]) _ _ ((B3.new htp).new ht2) ((L3.new htp).new ht2) ⟨t2, tn, tp, ws, rfl, upd_same, up_new ht2 (up_new htp htn3), up_new ht2 upd_same, (hN.mono (TupS.new htp)).mono (TupS.new ht2)⟩

theorem rd_functions {Z : Adr} (T : Top Z) {a0 : V} {H : Hp} {Q : VK} {E : XK} (h : q_functions Z a0 H Q E) : t_functions Z (fun cls d _ H => E cls d H) ⟨fun _ H' => Q .non H', Q, fun _ _ => False, fun _ _ => False⟩ [some a0, none, none, none, none, none] H := by
  unfold t_functions
  obtain ⟨ls, xs, rfl, hsq, q, qe⟩ := h
  walk_at "zz"
  intro p dx hp hdx hne
  have hp' : upd H dx (.own p) p = none := by rw [upd_ne (Ne.symm hne)]; exact hp
  have S0 : Same H (upd (upd H dx (.own p)) p (.ins Z.c_Look dx [])) := (same_new hdx).trans (same_new hp')
  refine cl_Look_init ⟨p, dx, ls, xs, rfl, rfl, upd_same, S0.seq hsq, fun l H1 B1 L1 hl => ⟨rfl, ?_⟩⟩
  have S1 : Same H H1 := same_own S0 B1 hp
  have err : ∀ {H2 : Hp} er, Same H H2 → funsP xs = .error er → ErrS Z p H2 er E := fun {H2} er S2 e d H3 B3 x => qe er e d H3 (same_own S2 B3 hp) x
  walk_at "zz"
  refine cl_heads_in ⟨p, dx, l, xs, rfl, L1, fun hs eh lh vs H2 B2 L2 hlh1 hlh hP => ?_, fun er ee => err er S1 (bindR_of_err ee)⟩
  obtain ⟨n1, n2, e0, eL⟩ := headsP_ok eh
  have eF : funsP xs = bindR (bodiesP xs hs hs.length (1 + 2 * hs.length)) fun a => if a.2 < xs.length then .error (a.2, "over") else .ok (hs, a.1) := by unfold funsP; rw [bindR_of eh]
  have S2 : Same H H2 := same_own S1 B2 hp
  have nlp : lh ≠ p := L2.lst hlh
  have hk2 : 1 + 2 * hs.length ≤ xs.length := by
    have hi : hs.length - 1 < hs.length := by omega
    have := (heads_at eL (List.getElem?_eq_getElem hi)).2
    have := (List.getElem?_eq_some_iff.mp this).1
    omega
  walk_at "zz"
  intro lf hlf
  have nfp : lf ≠ p := (ne_of_none L2.o hlf).symm
  have nfl : l ≠ lf := ne_of_none L2.n hlf
  have nfh : lh ≠ lf := ne_of_none hlh hlf
  have hlf0 : H lf = none := by
    cases z : H lf with
    | none => rfl
    | some o => rw [S2 _ _ z] at hlf; cases hlf
  walk_at "zz"
  refine loop_list vs (fun i σ' H' => ∃ (r : List Nd × Nat) (ws : List V) (x4 x5 : Option V), LookAt Z H' p dx l xs r.2 ∧ Same H H' ∧ r.2 ≤ xs.length ∧ bodiesP xs hs i (1 + 2 * hs.length) = .ok r ∧ H' lf = some (.lst ws) ∧ FunsAt H' (hs.take i) r.1 ws ∧ H' lh = some (.lst vs) ∧ PairsAt H' hs vs ∧
    σ' = [some (.ref ls), some (.ref p), some (.ref lh), some (.ref lf), x4, x5]) ⟨([], 1 + 2 * hs.length), [], _, _, L2.new hlf, S2.trans (same_new hlf), hk2, rfl, upd_same, rfl, up_new hlf hlh, hP.mono (TupS.new hlf), rfl⟩ (fun i σ' H' hi ⟨r, ws, x4, x5, a1, a2, a3, a4, a5, a6, a7, a8, a9⟩ => SqL.of a7) ?_ ?_
  · rintro i v σ' H3 hv ⟨r, ws, x4, x5, L3, S3, hk3, er, hw, hF, hlh3, hP3, rfl⟩
    have hi : i < hs.length := by
      have := (List.getElem?_eq_some_iff.mp hv).1
      rwa [hP.len] at this
    have ehi : hs[i]? = some hs[i] := List.getElem?_eq_getElem hi
    obtain ⟨t, et, ht⟩ := hP3.get ehi
    rw [hv] at et
    cases et
    have ed : hs.getD i (0, 0) = hs[i] := by rw [List.getD_eq_getElem?_getD, ehi]; rfl
    refine s_gun_t (SqT.of ht) rfl ?_
    walk_at "zz"
    refine cl_node_in ⟨p, dx, l, xs, r.2, lh, hs, vs, _, 1, 10, rfl, rfl, rfl, rfl, by omega, by omega, fun h hh => by have := headsL_all eL h hh; exact ⟨by omega, by omega⟩, hk3, L3, hlh3, hP3, fun b ebb vb H4 B4 L4 hvb => ?_,
      fun e ee => err e S3 (by rw [eF]; refine bindR_of_err (bodiesP_err (i := i + 1) ?_ hi); unfold bodiesP; rw [bindR_of er, ed]; exact bindR_of_err ee)⟩
    have er2 : bodiesP xs hs (i + 1) (1 + 2 * hs.length) = .ok (r.1 ++ [b.1], b.2) := by unfold bodiesP; rw [bindR_of er, ed, bindR_of ebb]
    have T4 := L3.tups B4
    have hw4 := B4.rd nfp hw
    walk_at "zz"
    intro t2 ht2
    walk_at "zz"
    have hw5 := up_new (u := .tup [.int hs[i].1, .int hs[i].2, vb]) ht2 hw4
    refine c_append hw5 (small1000 (by rw [hF.len.1, List.length_take]; omega)) fun H5 B5 h5 => ?_
    have T5 : TupS _ H5 := TupS.but B5 hw5 fun ys e => by cases e
    have TT := (T4.trans (TupS.new (o := .tup [.int hs[i].1, .int hs[i].2, vb]) ht2)).trans T5
    walk_at "zz"
    refine ⟨_, _, _, _, (L4.new ht2).own B5 nfp.symm nfl, same_own ((same_own S3 B4 hp).trans (same_new ht2)) B5 hlf0, (nodeP_le ebb).2, er2, h5, ?_, B5.rd nfh (up_new ht2 (B4.rd nlp hlh3)), hP3.mono TT, rfl⟩
    rw [List.take_succ_eq_append_getElem hi]
    exact (hF.mono TT).app (T5 _ _ upd_same) (hvb.mono ((TupS.new ht2).trans T5))
  · rintro σ' H3 ⟨r, ws, x4, x5, L3, S3, hk3, er, hw, hF, hlh3, hP3, rfl⟩
    rw [hP.len] at er hF
    rw [List.take_length] at hF
    have hp3 := L3.o
    have hl3 := L3.n
    walk_at "zz"
    rw [List.length_map]
    refine s_ifd (fun c => ?_) (fun c => ?_)
    · refine s_raiseO ?_
      walk_at "zz"
      exact raise_NoSheet (Z := Z) (W := fun cls d _ H' => E cls d H') (σ := []) fun d H' S x => err _ S3 (by rw [eF, bindR_of er, if_pos (by omega)]) d H' (But.of S) x
    · walk_at "zz"
      exact q hs r.1 (by rw [eF, bindR_of er, if_neg (by omega)]) _ _ _ S3 hlf0 hw hF

theorem rd_wrong {Z : Adr} (T : Top Z) {a0 : V} {H : Hp} {Q : VK} {E : XK} (h : q_wrong Z a0 H Q E) : t_wrong Z (fun cls d _ H => E cls d H) ⟨fun _ H' => Q .non H', Q, fun _ _ => False, fun _ _ => False⟩ [some a0, none, none] H := by
  unfold t_wrong
  obtain ⟨ls, xs, rfl, hsq, q, qe⟩ := h
  walk_at "zz"
  refine s_tryAs ?_
  walk_at "zz"
  refine cl_functions ⟨ls, xs, rfl, hsq, fun hs bs e lf vs H1 S1 _ _ _ => ?_, fun er ee d H1 S1 x => ⟨true, T.ex_NoSheet_NoSheet, fun _ a ha => ?_, fun z => by cases z⟩⟩
  · walk_at "zz"
    exact q _ e _ S1
  · walk_at "zz"
    refine s_xf ?_
    walk_at "zz"
    refine ⟨rfl, rfl, d, _, .int er.1, rfl, x, by rw [lk_ne (by decide +kernel), lk_eq], ?_⟩
    refine s_xf ?_
    walk_at "zz"
    refine ⟨rfl, rfl, d, _, .str er.2, rfl, x, lk_eq, ?_⟩
    walk_at "zz"
    intro t ht
    walk_at "zz"
    exact qe er ee t _ (S1.trans (same_new ht)) upd_same

theorem rd_nodes_in {Z : Adr} (T : Top Z) {n : Nat} {a0 : V} {H : Hp} {Q : VK} {E : XK} (h : q_nodes_in Z (n + 1) a0 H Q E) : t_nodes_in Z n (fun cls d _ H => E cls d H) ⟨fun _ H' => Q .non H', Q, fun _ _ => False, fun _ _ => False⟩ [some a0, none, none] H := by
  unfold t_nodes_in
  obtain ⟨xs, hs, bx, k, f, r, e, hN, hf, hlen, q⟩ := h
  obtain ⟨f, rfl⟩ : ∃ g, f = g + 1 := ⟨f - 1, by have := nodeP_dep e; omega⟩
  obtain ⟨kind, o, pp, e1, k0, k1, eo, ep, rfl⟩ := nodeP_ok e
  obtain ⟨t, tn, tp, vs, rfl, h1, h2, h3, h4⟩ := hN
  have hNode : NodeAt H (.mk kind k o.1 pp.1) (.ref t) := ⟨t, tn, tp, vs, rfl, h1, h2, h3, h4⟩
  walk_at "zz"
  intro l hl
  walk_at "zz"
  refine s_ix_t (SqT.of (up_new hl h1)) (v := .ref tp) rfl ?_
  walk_at "zz"
  have hall := (partsP_le (xs := xs) (fun k r => nodeP_le (f := f) (k := k) (r := r)) ep)
  refine loop_tup vs (fun i σ' H' => ∃ (r : List Nd × Nat) (ws : List V) (x : Option V), Same H H' ∧ partsP (nodeP xs hs bx f) i o.2.2 = .ok r ∧ H' l = some (.lst ws) ∧ NodesAt H' (.mk kind k o.1 pp.1 :: pres r.1) ws ∧ σ' = [some (.ref t), some (.ref l), x])
    ⟨([], o.2.2), [.ref t], none, same_new hl, rfl, upd_same, ⟨.ref t, [], rfl, hNode.mono (TupS.new hl), rfl⟩, rfl⟩ (fun i σ' H' hi ⟨r, ws, x, S, _⟩ => SqT.of (S _ _ h3)) ?_ ?_
  · rintro i v σ' H2 hv ⟨r, ws, x, S2, er, hw, hN2, rfl⟩
    have hi : i < pp.1.length := by
      have := (List.getElem?_eq_some_iff.mp hv).1
      rwa [h4.len] at this
    have hpl := partsP_len ep
    obtain ⟨r2, er2⟩ := partsP_pre ep (i := i + 1) (by omega)
    obtain ⟨b, eb, rfl⟩ := partsP_step er2 er
    obtain ⟨nd, end_, hnd⟩ := h4.get hv
    rw [partsP_get er eb ep (by omega)] at end_
    cases end_
    have c1 := (parts_cov (xs := xs) (fun j r => node_cov (f := f) (k := j) (r := r)) er).len
    have c2 := (node_cov eb).len
    have c3 := (nodeP_le eb).2
    walk_at "zz"
    refine cl_nodes_in ⟨xs, hs, bx, r.2, f, b, eb, hnd.mono (TupS.of S2), by omega, hlen, fun l3 us H3 S3 hl30 hl3 hu => ?_⟩
    have hw3 := S3 _ _ hw
    have nl3 : l3 ≠ l := fun e => by subst e; rw [hl30] at hw; cases hw
    walk_at "zz"
    refine c_extend hw3 hl3 (by
      rw [hN2.len, hu.len, List.length_cons]
      have : 900000 ≤ sizeLine := by decide
      omega) fun H4 B4 h4' => ?_
    have T4 : TupS H3 H4 := TupS.but B4 hw3 fun ys e => by cases e
    walk_at "zz"
    refine ⟨_, _, _, same_own (S2.trans S3) B4 hl, er2, h4', ?_, rfl⟩
    have := ((hN2.mono (TupS.of S3)).mono T4).append (hu.mono T4)
    show NodesAt H4 (_ :: pres (r.1 ++ [b.1])) _
    rw [pres_app, pres_one]
    exact this
  · rintro σ' H2 ⟨r, ws, x, S2, er, hw, hN2, rfl⟩
    rw [h4.len, partsP_len ep, ep] at er
    cases er
    walk_at "zz"
    exact q l ws H2 S2 hl hw hN2

theorem rd_nodes {Z : Adr} (T : Top Z) {a0 : V} {H : Hp} {Q : VK} {E : XK} (h : q_nodes Z a0 H Q E) : t_nodes Z (fun cls d _ H => E cls d H) ⟨fun _ H' => Q .non H', Q, fun _ _ => False, fun _ _ => False⟩ [some a0, none, none, none, none] H := by
  unfold t_nodes
  obtain ⟨ls, xs, rfl, hsq, hlen, q, qe⟩ := h
  walk_at "zz"
  intro l hl
  walk_at "zz"
  refine cl_functions ⟨ls, xs, rfl, (same_new hl).seq hsq, fun hs bs e lf vs H1 S1 hlf0 hlf hF => ?_, fun er ee d H1 S1 x => qe er ee d H1 ((same_new hl).trans S1) x⟩
  obtain ⟨ke, eh, eb, hke⟩ := funsP_ok e
  have nfl : l ≠ lf := fun e => by subst e; rw [upd_same] at hlf0; cases hlf0
  have Sl : Same H H1 := (same_new hl).trans S1
  have hlf0' : H lf = none := by rw [upd_ne nfl.symm] at hlf0; exact hlf0
  walk_at "zz"
  refine loop_list vs (fun i σ' H' => ∃ (r : List Nd × Nat) (ws : List V) (x2 x3 x4 : Option V), Same H H' ∧ bodiesP xs hs i (1 + 2 * hs.length) = .ok r ∧ H' l = some (.lst ws) ∧ NodesAt H' (pres r.1) ws ∧ H' lf = some (.lst vs) ∧ FunsAt H' hs bs vs ∧ σ' = [some (.ref ls), some (.ref l), x2, x3, x4])
    ⟨([], 1 + 2 * hs.length), [], none, none, none, Sl, rfl, S1 _ _ upd_same, rfl, hlf, hF, rfl⟩ (fun i σ' H' hi ⟨r, ws, x2, x3, x4, _, _, _, _, a, _⟩ => SqL.of a) ?_ ?_
  · rintro i v σ' H2 hv ⟨r, ws, x2, x3, x4, S2, er, hw, hN2, hlf2, hF2, rfl⟩
    have hi : i < hs.length := by
      have := (List.getElem?_eq_some_iff.mp hv).1
      rwa [hF.len.1] at this
    obtain ⟨t, vb, hh, b0, rfl, e3, e4, e5⟩ := hF2.nodes hv
    obtain ⟨r2, er2⟩ := bodiesP_pre eb (i := i + 1) hi
    obtain ⟨b, ebb, rfl⟩ := bodiesP_step er2 er
    rw [bodiesP_get er ebb eb hi] at e3
    cases e3
    have c1 := (bodies_cov er).len
    have c2 := (node_cov ebb).len
    have c3 := (nodeP_le ebb).2
    refine s_gun_t (SqT.of e4) rfl ?_
    walk_at "zz"
    refine cl_nodes_in ⟨xs, hs, _, r.2, 10, b, ebb, e5, by omega, hlen, fun l3 us H3 S3 hl30 hl3 hu => ?_⟩
    have hw3 := S3 _ _ hw
    walk_at "zz"
    refine c_extend hw3 hl3 (by
      rw [hN2.len, hu.len]
      have : 900000 ≤ sizeLine := by decide
      omega) fun H4 B4 h4' => ?_
    have T4 : TupS H3 H4 := TupS.but B4 hw3 fun ys e => by cases e
    walk_at "zz"
    refine ⟨_, _, _, _, _, same_own (S2.trans S3) B4 hl, er2, h4', ?_, B4.rd nfl.symm (S3 _ _ hlf2), (hF2.mono (TupS.of S3)).mono T4, rfl⟩
    have := ((hN2.mono (TupS.of S3)).mono T4).append (hu.mono T4)
    show NodesAt H4 (pres (r.1 ++ [b.1])) _
    rw [pres_app, pres_one]
    exact this
  · rintro σ' H2 ⟨r, ws, x2, x3, x4, S2, er, hw, hN2, hlf2, hF2, rfl⟩
    rw [hF.len.1, eb] at er
    cases er
    walk_at "zz"
    exact q hs bs e l ws H2 S2 hl hw hN2

theorem rd_Lmixed {Z : Adr} (T : Top Z) {a0 a1 : V} {H : Hp} {Q : VK} {E : XK} (h : q_Lmixed Z a0 a1 H Q E) : t_Lmixed Z (fun cls d _ H => E cls d H) ⟨fun _ H' => Q .non H', Q, fun _ _ => False, fun _ _ => False⟩ [some a0, some a1, none, none] H := by
  unfold t_Lmixed
  obtain ⟨c, k, rfl, rfl, q⟩ := h
  walk_at "zz"
  repeat (refine s_mulp (by omega) ?_; walk_at "zz")
  exact q _

theorem rd_Ltake {Z : Adr} (T : Top Z) {a0 a1 : V} {H : Hp} {Q : VK} {E : XK} (h : q_Ltake Z a0 a1 H Q E) : t_Ltake Z (fun cls d _ H => E cls d H) ⟨fun _ H' => Q .non H', Q, fun _ _ => False, fun _ _ => False⟩ [some a0, some a1, none, none, none, none] H := by
  unfold t_Ltake
  obtain ⟨p, m, rfl, rfl, hm, hm2, ⟨sa, ns, k, l, hS, hk, hl, hp⟩, q⟩ := h
  have hsq := hS.sq
  walk_at "zz"
  refine s_cut (fun σ' H' => ∃ (k' l' : Int) (x2 x3 x4 : Option V), But p H H' ∧ H' p = some (.lst [.ref sa, .int k', .int l']) ∧ 0 ≤ k' ∧ 0 ≤ l' ∧ σ' = [some (.ref p), some (.int m), x2, x3, x4, none]) ?_ ?_
  · walk_at "zz"
    refine s_ix_l (SqL.of hp) (v := .int l) rfl ?_
    walk_at "zz"
    refine s_ifd (fun c => ?_) (fun c => ?_)
    · walk_at "zz"
      refine s_ix_l (SqL.of hp) (v := .ref sa) rfl ?_
      walk_at "zz"
      refine s_ix_l (SqL.of hp) (v := .int k) rfl ?_
      walk_at "zz"
      refine c_setL 1 [.ref sa, .int (k + 1), .int l] hp rfl rfl fun H1 B1 hp1 => ?_
      have hS1 := hS.but B1
      have hsq1 := hS1.sq
      walk_at "zz"
      refine s_cut (fun σ' H' => H' = H1 ∧ ∃ c : Int, σ' = [some (.ref p), some (.int m), some (.ref sa), some (.int k), some (.int c), none]) ?_ ?_
      · walk_at "zz"
        rw [List.length_map]
        refine s_ifd (fun c => ?_) (fun c => ?_)
        · walk_at "zz"
          obtain ⟨w, hw, ew⟩ := at_ints ns hk c
          refine s_ix_l hsq1 ew ?_
          walk_at "zz"
          exact ⟨rfl, _, rfl⟩
        · walk_at "zz"
          rw [List.length_map]
          refine s_ifd (fun c => ?_) (fun c => ?_)
          · walk_at "zz"
            rw [List.length_map]
            refine s_modp c ?_
            walk_at "zz"
            obtain ⟨w, hw, ew⟩ := at_ints ns (i := k % ns.length) (Int.emod_nonneg _ (by omega)) (Int.emod_lt_of_pos _ c)
            refine s_ix_l hsq1 ew ?_
            walk_at "zz"
            exact ⟨rfl, _, rfl⟩
          · walk_at "zz"
            exact ⟨rfl, _, rfl⟩
      · rintro σ' H' ⟨rfl, c, rfl⟩
        walk_at "zz"
        refine s_ifd (fun c1 => ?_) (fun c1 => ?_)
        · walk_at "zz"
          refine cl_Lmixed ⟨c, k, rfl, rfl, fun z => ?_⟩
          walk_at "zz"
          exact q _ _ (Int.emod_nonneg _ (by omega)) (Int.emod_lt_of_pos _ hm) ⟨sa, ns, k + 1, l, hS1, by omega, hl, hp1⟩ B1
        · walk_at "zz"
          refine c_setL 2 [.ref sa, .int (k + 1), .int (if c < 0 then -c else c)] hp1 rfl rfl fun H2 B2 hp2 => ?_
          walk_at "zz"
          exact ⟨k + 1, _, _, _, _, B1.trans B2, hp2, by omega, by split <;> omega, rfl⟩
    · walk_at "zz"
      exact ⟨k, l, _, _, _, But.refl _ _, hp, hk, hl, rfl⟩
  · rintro σ' H' ⟨k', l', x2, x3, x4, B, hp', hk', hl', rfl⟩
    walk_at "zz"
    refine s_ix_l (SqL.of hp') (v := .int l') rfl ?_
    walk_at "zz"
    refine s_ix_l (SqL.of hp') (v := .int l') rfl ?_
    walk_at "zz"
    refine s_fdvq ⟨hm, hm2⟩ ?_
    walk_at "zz"
    refine c_setL 2 [.ref sa, .int k', .int (l' / m)] hp' rfl rfl fun H2 B2 hp2 => ?_
    walk_at "zz"
    exact q _ _ (Int.emod_nonneg _ (by omega)) (Int.emod_lt_of_pos _ hm) ⟨sa, ns, k', l' / m, hS.but (B.trans B2), hk', Int.ediv_nonneg hl' (by omega), hp2⟩ (B.trans B2)

theorem rd_Lheads {Z : Adr} (T : Top Z) {a0 : V} {H : Hp} {Q : VK} {E : XK} (h : q_Lheads Z a0 H Q E) : t_Lheads Z (fun cls d _ H => E cls d H) ⟨fun _ H' => Q .non H', Q, fun _ _ => False, fun _ _ => False⟩ [some a0, none, none, none, none] H := by
  unfold t_Lheads
  obtain ⟨p, rfl, hSt, q⟩ := h
  walk_at "zz"
  refine cl_Ltake ⟨p, 4, rfl, rfl, by omega, by omega, hSt, fun v H1 v0 v1 S1 B1 => ?_⟩
  walk_at "zz"
  refine s_cut (fun σ' H' => ∃ m : Int, 1 ≤ m ∧ m ≤ 16 ∧ St3 Z.K H' p ∧ But p H H' ∧ σ' = [some (.ref p), some (.int m), none, none, none]) ?_ ?_
  · walk_at "zz"
    refine cl_Ltake ⟨p, 8, rfl, rfl, by omega, by omega, S1, fun v2 H2 v20 v21 S2 B2 => ?_⟩
    walk_at "zz"
    refine s_ifd (fun c => ?_) (fun c => ?_)
    · walk_at "zz"
      refine cl_Ltake ⟨p, 16, rfl, rfl, by omega, by omega, S2, fun v3 H3 v30 v31 S3 B3 => ?_⟩
      walk_at "zz"
      exact ⟨1 + v3, by omega, by omega, S3, (B1.trans B2).trans B3, rfl⟩
    · walk_at "zz"
      exact ⟨1 + v, by omega, by omega, S2, B1.trans B2, rfl⟩
  · rintro σ' H2 ⟨m, m0, m1, S2, B2, rfl⟩
    walk_at "zz"
    intro lh hlh
    have nlp : lh ≠ p := S2.ne hlh
    walk_at "zz"
    refine loop_range (fun i σ' H' => ∃ (hs : List (Int × Int)) (vs : List V) (x3 x4 : Option V), hs.length = i ∧ (∀ (i : Nat) (h : Int × Int), hs[i]? = some h → 0 ≤ h.1 ∧ h.1 ≤ (if 0 < i then 4 else 0) ∧ h.1 ≤ h.2 ∧ h.2 ≤ 12) ∧ H' lh = some (.lst vs) ∧ PairsAt H' hs vs ∧ St3 Z.K H' p ∧ But p H H' ∧ σ' = [some (.ref p), some (.int m), some (.ref lh), x3, x4])
      ⟨[], [], _, _, rfl, fun i h e => by simp at e, upd_same, rfl, S2.new hlh, B2.new hlh, rfl⟩ ?_ ?_
    · rintro i σ' H3 hi ⟨hs, vs, x3, x4, hl, hok, hv, hP, S3, B3, rfl⟩
      walk_at "zz"
      refine cl_Ltake ⟨p, 5, rfl, rfl, by omega, by omega, S3, fun v4 H4 v40 v41 S4 B4 => ?_⟩
      walk_at "zz"
      have hpar : ∃ pa : Int, v4 * (if decide (0 < 0 + (i : Int)) = true then 1 else 0) = pa ∧ 0 ≤ pa ∧ pa ≤ (if 0 < i then 4 else 0) := by
        by_cases c : 0 < i
        · rw [if_pos (decide_eq_true (by omega)), if_pos c]; exact ⟨_, rfl, by omega, by omega⟩
        · rw [if_neg (by simp; omega), if_neg c]; exact ⟨_, rfl, by omega, by omega⟩
      obtain ⟨pa, epa, pa0, pa1⟩ := hpar
      rw [epa]
      have pa4 : pa ≤ 4 := by split at pa1 <;> omega
      intro l4 hl4
      walk_at "zz"
      refine cl_Ltake ⟨p, 2, rfl, rfl, by omega, by omega, S4.new hl4, fun v5 H5 v50 v51 S5 B5 => ?_⟩
      have hl5 := B5.rd (S4.ne hl4) upd_same
      obtain ⟨w, hw, ew⟩ := at_ints [13 - pa, 4] (i := v5) v50 (by show v5 < 2; omega)
      have hw' : 1 ≤ w ∧ pa + w ≤ 13 := by simp at hw; omega
      refine s_ix_l (SqL.of hl5) ew ?_
      walk_at "zz"
      refine cl_Ltake ⟨p, w, rfl, rfl, by omega, by omega, S5, fun v6 H6 v60 v61 S6 B6 => ?_⟩
      have B36 : But p H3 H6 := ((B4.new hl4).trans B5).trans B6
      have T36 := S3.tups B36
      have hv6 := B36.rd nlp hv
      walk_at "zz"
      intro t ht
      walk_at "zz"
      refine c_append (up_new ht hv6) (small1000 (by rw [hP.len]; omega)) fun H7 B7 h7 => ?_
      have T7 : TupS _ H7 := TupS.but B7 (up_new (u := .tup [.int pa, .int (pa + v6)]) ht hv6) fun ys e => by cases e
      walk_at "zz"
      have hlh0 : H lh = none := B2.none nlp hlh
      refine ⟨hs ++ [(pa, pa + v6)], _, _, _, by rw [List.length_append, hl]; rfl, ?_, h7, ((hP.mono (T36.trans (TupS.new ht))).mono T7).app (T7 _ _ upd_same), (S6.new ht).but B7 nlp.symm, ((B3.trans B36).new ht).own B7 hlh0, rfl⟩
      intro j h hj
      by_cases c : j < hs.length
      · rw [List.getElem?_append_left c] at hj
        exact hok j h hj
      · rw [List.getElem?_append_right (by omega)] at hj
        have hz : j - hs.length = 0 := by
          have := (List.getElem?_eq_some_iff.mp hj).1
          simp at this
          omega
        rw [hz] at hj
        cases hj
        have : j = i := by omega
        subst this
        exact ⟨pa0, pa1, by show pa ≤ pa + v6; omega, by show pa + v6 ≤ 12; omega⟩
    · rintro σ' H3 ⟨hs, vs, x3, x4, hl, hok, hv, hP, S3, B3, rfl⟩
      walk_at "zz"
      exact q lh hs vs _ ⟨by omega, by omega, hok⟩ (B2.none nlp hlh) hv hP S3 B3

theorem rd_Lnumber {Z : Adr} (T : Top Z) {a0 : V} {H : Hp} {Q : VK} {E : XK} (h : q_Lnumber Z a0 H Q E) : t_Lnumber Z (fun cls d _ H => E cls d H) ⟨fun _ H' => Q .non H', Q, fun _ _ => False, fun _ _ => False⟩ [some a0, none] H := by
  unfold t_Lnumber
  obtain ⟨p, rfl, hSt, q⟩ := h
  walk_at "zz"
  refine cl_Ltake ⟨p, 6, rfl, rfl, by omega, by omega, hSt, fun v H1 v0 v1 S1 B1 => ?_⟩
  walk_at "zz"
  refine s_ifd (fun c => ?_) (fun c => ?_)
  · walk_at "zz"
    refine cl_Ltake ⟨p, 9, rfl, rfl, by omega, by omega, S1, fun v2 H2 v20 v21 S2 B2 => ?_⟩
    walk_at "zz"
    exact q _ _ (by omega) (by omega) S2 (B1.trans B2)
  walk_at "zz"
  refine s_ifd (fun c => ?_) (fun c => ?_)
  · walk_at "zz"
    refine cl_Ltake ⟨p, 400, rfl, rfl, by omega, by omega, S1, fun v2 H2 v20 v21 S2 B2 => ?_⟩
    walk_at "zz"
    exact q _ _ (by omega) (by omega) S2 (B1.trans B2)
  walk_at "zz"
  refine cl_Ltake ⟨p, _, rfl, rfl, by omega, by omega, S1, fun v2 H2 v20 v21 S2 B2 => ?_⟩
  walk_at "zz"
  exact q _ _ (by omega) (by omega) S2 (B1.trans B2)

theorem rd_Lleaf {Z : Adr} (T : Top Z) {a0 a1 : V} {H : Hp} {Q : VK} {E : XK} (h : q_Lleaf Z a0 a1 H Q E) : t_Lleaf Z (fun cls d _ H => E cls d H) ⟨fun _ H' => Q .non H', Q, fun _ _ => False, fun _ _ => False⟩ [some a0, some a1, none] H := by
  unfold t_Lleaf
  obtain ⟨p, bx, rfl, rfl, hb, hSt, q⟩ := h
  walk_at "zz"
  refine cl_Ltake ⟨p, 5, rfl, rfl, by omega, by omega, hSt, fun v H1 v0 v1 S1 B1 => ?_⟩
  have two : ∀ {H2 : Hp} (k x : Int), (∀ hs f, OkN hs bx (f + 1) (.mk k 0 [x] [])) → St3 Z.K H2 p → But p H H2 → ∀ l, H2 l = none → Q (.ref l) (upd H2 l (.lst [.int k, .int x])) := fun {H2} k x ok S2 B2 l hl =>
    q l (.mk k 0 [x] []) _ (B2.none (S2.ne hl) hl) upd_same ok (Nat.le_refl _) (S2.new hl) (B2.new hl)
  have last : tSeq (tIfS (tTest (tOp (rEqU Z.K) (tVar 2) (tC (.int 2)))) (tRet (tLst (tCons (tC (.int 19)) tNil))) tNext)
    (tRet (tLst (tCons (tC (.int 0)) (tCons (tCallS (sp_Lnumber Z) (WE (fun cls d _ H => E cls d H)) (tCons (tVar 0) tNil)) tNil)))) ⟨fun _ H' => Q .non H', Q, fun _ _ => False, fun _ _ => False⟩ [some (.ref p), some (.int bx), some (.int v)] H1 := by
    walk_at "zz"
    refine s_ifd (fun c => ?_) (fun c => ?_)
    · walk_at "zz"
      intro l hl
      exact q l (.mk 19 0 [] []) _ (B1.none (S1.ne hl) hl) upd_same (fun hs f => ⟨by omega, by omega, .inr (.inr (.inr (.inr (.inr (.inr ⟨by omega, rfl, rfl⟩))))), fun p hp => by cases hp⟩) (Nat.le_succ _) (S1.new hl) (B1.new hl)
    · walk_at "zz"
      refine cl_Lnumber ⟨p, rfl, S1, fun x H2 _ _ S2 B2 => ?_⟩
      walk_at "zz"
      exact two 0 x (fun hs f => ⟨by omega, by omega, .inl ⟨rfl, rfl, x, rfl⟩, fun p hp => by cases hp⟩) S2 (B1.trans B2)
  walk_at "zz"
  refine s_ifd (fun c => ?_) (fun c => ?_)
  · walk_at "zz"
    refine s_ifd (fun c2 => ?_) (fun c2 => ?_)
    · walk_at "zz"
      refine cl_Ltake ⟨p, bx, rfl, rfl, c2, hb, S1, fun v2 H2 v20 v21 S2 B2 => ?_⟩
      walk_at "zz"
      exact two 1 v2 (fun hs f => ⟨by omega, by omega, .inr (.inl ⟨.inl ⟨rfl, rfl⟩, v2, rfl, v20, v21⟩), fun p hp => by cases hp⟩) S2 (B1.trans B2)
    · exact last
  · refine s_iff ?_
    exact last

theorem rd_Lhead {Z : Adr} (T : Top Z) {a0 a1 a2 : V} {H : Hp} {Q : VK} {E : XK} (h : q_Lhead Z a0 a1 a2 H Q E) : t_Lhead Z (fun cls d _ H => E cls d H) ⟨fun _ H' => Q .non H', Q, fun _ _ => False, fun _ _ => False⟩ [some a0, some a1, some a2, none, none, none] H := by
  unfold t_Lhead
  obtain ⟨p, lh, hs, vs, bx, rfl, rfl, rfl, hb, hok, hlh, hP, hSt, q⟩ := h
  walk_at "zz"
  refine cl_Ltake ⟨p, 20, rfl, rfl, by omega, by omega, hSt, fun v H1 v0 v1 S1 B1 => ?_⟩
  have nlp : lh ≠ p := by
    obtain ⟨sa, ns, k, l, _, _, _, hp⟩ := hSt
    intro e
    subst e
    rw [hp] at hlh
    cases hlh
    obtain ⟨n1, n2, n3⟩ := hok
    match hs, n1 with
    | h :: hs, _ =>
      obtain ⟨t, r, e, ht, h2⟩ := hP
      cases e
      match hs, h2 with
      | [], e => cases e
      | h :: hs, ⟨t, r, e, _, _⟩ => cases e
  have fin : ∀ {H2 : Hp} (own : List Int) (many : Int), ((∃ k, own = [k] ∧ k < 3) ∨ ∃ k ns m, own = k :: ns ∧ 0 ≤ k ∧ k ≤ 19 ∧ (k < 3 → ns.length = 1) ∧ ns.length ≤ 1 ∧ OwnOK hs bx k ns m ∧ many = (m : Int)) → St3 Z.K H2 p → But p H H2 →
      ∀ l, H2 l = none → ∀ t, upd H2 l (.lst (own.map V.int)) t = none → Q (.ref t) (upd (upd H2 l (.lst (own.map V.int))) t (.tup [.ref l, .int many])) := fun {H2} own many ok S2 B2 l hl t ht =>
    q t l own many _ upd_same (up_new ht upd_same) (B2.none (S2.ne hl) hl) ok ((S2.new hl).new ht) ((B2.new hl).new ht)
  have rest : tSeq (tIfS (tTest (tOp (rEqU Z.K) (tVar 3) (tC (.int 3)))) (tSeq (tAsg (tOp (rAddU Z.K) (tC (.int 1)) (tCallS (sp_Ltake Z) (WE (fun cls d _ H => E cls d H)) (tCons (tVar 0) (tCons (tOp (rIx Z.K) (tLst (tCons (tC (.int 4)) (tCons (tC (.int 4)) (tCons (tC (.int 4)) (tCons (tC (.int 12)) tNil))))) (tCallS (sp_Ltake Z) (WE (fun cls d _ H => E cls d H)) (tCons (tVar 0) (tCons (tC (.int 4)) tNil)))) tNil)))) (gName 4))
    (tRet (tTup (tCons (tLst (tCons (tC (.int 3)) (tCons (tVar 4) tNil))) (tCons (tVar 4) tNil))))) tNext)
    (tSeq (tIfS (tTest (tOp (rEqU Z.K) (tVar 3) (tC (.int 4)))) (tSeq (tAsg (tOp (rAddU Z.K) (tC (.int 2)) (tCallS (sp_Ltake Z) (WE (fun cls d _ H => E cls d H)) (tCons (tVar 0) (tCons (tOp (rIx Z.K) (tLst (tCons (tC (.int 3)) (tCons (tC (.int 3)) (tCons (tC (.int 3)) (tCons (tC (.int 11)) tNil))))) (tCallS (sp_Ltake Z) (WE (fun cls d _ H => E cls d H)) (tCons (tVar 0) (tCons (tC (.int 4)) tNil)))) tNil)))) (gName 4))
    (tRet (tTup (tCons (tLst (tCons (tC (.int 4)) (tCons (tVar 4) tNil))) (tCons (tOp (rAddU Z.K) (tVar 4) (tC (.int 1))) tNil))))) tNext)
    (tSeq (tIfS (tTest (tOp (rEqU Z.K) (tVar 3) (tC (.int 6)))) (tSeq (tAsg (tCallS (sp_Ltake Z) (WE (fun cls d _ H => E cls d H)) (tCons (tVar 0) (tCons (tCB (rLen Z.K) (tCons (tVar 1) tNil)) tNil))) (gName 5))
    (tRet (tTup (tCons (tLst (tCons (tC (.int 6)) (tCons (tVar 5) tNil))) (tCons (tOp (rIx Z.K) (tOp (rIx Z.K) (tVar 1) (tVar 5)) (tC (.int 0))) tNil))))) tNext)
    (tRet (tTup (tCons (tLst (tCons (tVar 3) tNil)) (tCons (tOp (rIx Z.K) (tLst (tCons (tC (.int 0)) (tCons (tC (.int 0)) (tCons (tC (.int 0)) (tCons (tC (.int 0)) (tCons (tC (.int 0)) (tCons (tC (.int 2)) (tCons (tC (.int 0)) (tCons (tC (.int 1)) (tCons (tC (.int 2)) (tCons (tC (.int 2)) (tCons (tC (.int 2)) (tCons (tC (.int 2)) (tCons (tC (.int 2)) (tCons (tC (.int 2)) (tCons (tC (.int 2)) (tCons (tC (.int 2)) (tCons (tC (.int 2)) (tCons (tC (.int 3)) (tCons (tC (.int 1)) (tCons (tC (.int 0)) tNil))))))))))))))))))))) (tVar 3)) tNil))))))
      ⟨fun _ H' => Q .non H', Q, fun _ _ => False, fun _ _ => False⟩ [some (.ref p), some (.ref lh), some (.int bx), some (.int v), none, none] H1 := by
    walk_at "zz"
    refine s_ifd (fun c => ?_) (fun c => ?_)
    · walk_at "zz"
      intro l4 hl4
      walk_at "zz"
      refine cl_Ltake ⟨p, 4, rfl, rfl, by omega, by omega, S1.new hl4, fun v5 H5 v50 v51 S5 B5 => ?_⟩
      have hl5 := B5.rd (S1.ne hl4) upd_same
      obtain ⟨w, hw, ew⟩ := at_ints [4, 4, 4, 12] (i := v5) v50 (by show v5 < 4; omega)
      have hw' : 4 ≤ w ∧ w ≤ 12 := by simp at hw; omega
      refine s_ix_l (SqL.of hl5) ew ?_
      walk_at "zz"
      refine cl_Ltake ⟨p, w, rfl, rfl, by omega, by omega, S5, fun v6 H6 v60 v61 S6 B6 => ?_⟩
      walk_at "zz"
      intro l hl
      walk_at "zz"
      intro t ht
      exact fin [3, 1 + v6] (1 + v6) (.inr ⟨3, [1 + v6], (1 + v6).toNat, rfl, by omega, by omega, fun _ => rfl, Nat.le_refl _, .inr (.inr (.inl ⟨rfl, by omega, by omega, by rw [Int.toNat_of_nonneg (by omega)]⟩)), by omega⟩) S6 (((B1.new hl4).trans B5).trans B6) l hl t ht
    walk_at "zz"
    refine s_ifd (fun c => ?_) (fun c => ?_)
    · walk_at "zz"
      intro l4 hl4
      walk_at "zz"
      refine cl_Ltake ⟨p, 4, rfl, rfl, by omega, by omega, S1.new hl4, fun v5 H5 v50 v51 S5 B5 => ?_⟩
      have hl5 := B5.rd (S1.ne hl4) upd_same
      obtain ⟨w, hw, ew⟩ := at_ints [3, 3, 3, 11] (i := v5) v50 (by show v5 < 4; omega)
      have hw' : 3 ≤ w ∧ w ≤ 11 := by simp at hw; omega
      refine s_ix_l (SqL.of hl5) ew ?_
      walk_at "zz"
      refine cl_Ltake ⟨p, w, rfl, rfl, by omega, by omega, S5, fun v6 H6 v60 v61 S6 B6 => ?_⟩
      walk_at "zz"
      intro l hl
      walk_at "zz"
      intro t ht
      exact fin [4, 2 + v6] (2 + v6 + 1) (.inr ⟨4, [2 + v6], (2 + v6).toNat + 1, rfl, by omega, by omega, fun _ => rfl, Nat.le_refl _, .inr (.inr (.inr (.inl ⟨rfl, (2 + v6).toNat, by rw [Int.toNat_of_nonneg (by omega)], by omega, by omega, rfl⟩))), by omega⟩) S6 (((B1.new hl4).trans B5).trans B6) l hl t ht
    walk_at "zz"
    refine s_ifd (fun c => ?_) (fun c => ?_)
    · have hlh1 := B1.rd nlp hlh
      walk_at "zz"
      rw [hP.len]
      have n1 := hok.1
      have n2 := hok.2.1
      refine cl_Ltake ⟨p, hs.length, rfl, rfl, by omega, by omega, S1, fun v6 H6 v60 v61 S6 B6 => ?_⟩
      have hlh6 := B6.rd nlp hlh1
      have hP6 := (hP.mono (hSt.tups B1)).mono (S1.tups B6)
      have hv : v6.toNat < hs.length := by omega
      have eh : hs[v6.toNat]? = some hs[v6.toNat] := List.getElem?_eq_getElem hv
      obtain ⟨t6, et, ht6⟩ := hP6.get eh
      walk_at "zz"
      intro l hl
      walk_at "zz"
      refine s_ix_l (SqL.of (up_new hl hlh6)) (at_of (j := v6.toNat) (v := .ref t6) (by omega) et) ?_
      walk_at "zz"
      refine s_ix_t (SqT.of (up_new hl ht6)) (v := .int hs[v6.toNat].1) rfl ?_
      walk_at "zz"
      intro t ht
      have := (hok.2.2 _ _ eh).1
      exact fin [6, v6] _ (.inr ⟨6, [v6], hs[v6.toNat].1.toNat, rfl, by omega, by omega, fun _ => rfl, Nat.le_refl _, .inr (.inr (.inr (.inr (.inl ⟨rfl, v6.toNat, _, by rw [Int.toNat_of_nonneg (by omega)], eh, Int.toNat_of_nonneg this⟩)))), (Int.toNat_of_nonneg this).symm⟩) S6 (B1.trans B6) l hl t ht
    walk_at "zz"
    intro l hl
    walk_at "zz"
    intro l2 hl2
    walk_at "zz"
    have tab : ∃ m : Nat, atI ([0, 0, 0, 0, 0, 2, 0, 1, 2, 2, 2, 2, 2, 2, 2, 2, 2, 3, 1, 0].map V.int) v = some (.int (m : Int)) ∧ (v < 3 ∨ OwnOK hs bx v [] m) := by
      have : v < 3 ∨ v = 5 ∨ (7 ≤ v ∧ v ≤ 19) := by omega
      rcases this with z | z | z
      · obtain ⟨w, hw, ew⟩ := at_ints [0, 0, 0, 0, 0, 2, 0, 1, 2, 2, 2, 2, 2, 2, 2, 2, 2, 3, 1, 0] (i := v) v0 (by show v < 20; omega)
        have : 0 ≤ w := by simp at hw; omega
        exact ⟨w.toNat, by rw [Int.toNat_of_nonneg this]; exact ew, .inl z⟩
      · subst z
        exact ⟨2, rfl, .inr (.inr (.inr (.inr (.inr (.inr (.inl ⟨rfl, rfl, rfl⟩))))))⟩
      · refine ⟨(manyP v).toNat, ?_, .inr (.inr (.inr (.inr (.inr (.inr (.inr ⟨z.1, rfl, ?_⟩))))))⟩
        · have : v = 7 ∨ v = 8 ∨ v = 9 ∨ v = 10 ∨ v = 11 ∨ v = 12 ∨ v = 13 ∨ v = 14 ∨ v = 15 ∨ v = 16 ∨ v = 17 ∨ v = 18 ∨ v = 19 := by omega
          rcases this with e | e | e | e | e | e | e | e | e | e | e | e | e <;> subst e <;> rfl
        · refine Int.toNat_of_nonneg ?_
          unfold manyP
          repeat' split
          all_goals omega
    obtain ⟨m, em, om⟩ := tab
    refine s_ix_l (SqL.of upd_same) em ?_
    walk_at "zz"
    intro t ht
    have ne : l ≠ l2 := fun e => by subst e; rw [upd_same] at hl2; cases hl2
    refine q t l [v] m _ upd_same (up_new ht (up_new hl2 upd_same)) (B1.none (S1.ne hl) hl) ?_ (((S1.new hl).new hl2).new ht) (((B1.new hl).new hl2).new ht)
    rcases om with z | z
    · exact .inl ⟨v, rfl, z⟩
    · by_cases c3 : v < 3
      · exact .inl ⟨v, rfl, c3⟩
      · exact .inr ⟨v, [], m, rfl, v0, by omega, fun z => absurd z c3, Nat.zero_le _, z, rfl⟩
  walk_at "zz"
  refine s_ifd (fun c => ?_) (fun c => ?_)
  · walk_at "zz"
    refine s_ifd (fun c2 => ?_) (fun c2 => ?_)
    · walk_at "zz"
      refine cl_Ltake ⟨p, bx, rfl, rfl, c2, hb, S1, fun v2 H2 v20 v21 S2 B2 => ?_⟩
      walk_at "zz"
      intro l hl
      walk_at "zz"
      intro t ht
      exact fin [2, v2] 1 (.inr ⟨2, [v2], 1, rfl, by omega, by omega, fun _ => rfl, Nat.le_refl _, .inr (.inl ⟨.inr ⟨rfl, rfl⟩, v2, rfl, v20, v21⟩), rfl⟩) S2 (B1.trans B2) l hl t ht
    · exact rest
  · refine s_iff ?_
    exact rest

theorem rd_Lnode {Z : Adr} (T : Top Z) {n : Nat} {a0 a1 a2 a3 a4 : V} {H : Hp} {Q : VK} {E : XK} (h : q_Lnode Z (n + 1) a0 a1 a2 a3 a4 H Q E) : t_Lnode Z n (fun cls d _ H => E cls d H) ⟨fun _ H' => Q .non H', Q, fun _ _ => False, fun _ _ => False⟩ [some a0, some a1, some a2, some a3, some a4, none, none, none] H := by
  unfold t_Lnode
  obtain ⟨p, lh, lr, hs, vs, bx, dd, r, f, rfl, rfl, rfl, rfl, rfl, hd, hf1, hfn, hb, hok, hlh, hP, nrh, hlr, r0, r1, hSt, q⟩ := h
  obtain ⟨f, rfl⟩ : ∃ g, f = g + 1 := ⟨f - 1, by omega⟩
  walk_at "zz"
  have nrp : lr ≠ p := by
    obtain ⟨sa, ns, k, l, _, _, _, hp⟩ := hSt
    intro e
    subst e
    rw [hp] at hlr
    cases hlr
  have nhp : lh ≠ p := by
    obtain ⟨sa, ns, k, l, _, _, _, hp⟩ := hSt
    intro e
    subst e
    rw [hp] at hlh
    cases hlh
    obtain ⟨n1, n2, n3⟩ := hok
    match hs, n1 with
    | h :: hs, _ =>
      obtain ⟨t, r, e, ht, h2⟩ := hP
      cases e
      match hs, h2 with
      | [], e => cases e
      | h :: hs, ⟨t, r, e, _, _⟩ => cases e
  refine cl_Lhead ⟨p, lh, hs, vs, bx, rfl, rfl, rfl, hb, hok, hlh, hP, hSt, fun t l own many H1 ht hl hl0 hown S1 B1 => ?_⟩
  have hlh1 := B1.rd nhp hlh
  have hP1 := hP.mono (hSt.tups B1)
  have hlr1 := B1.rd nrp hlr
  have nlp : l ≠ p := hSt.ne hl0
  have nlr : lr ≠ l := ne_of_none hlr hl0
  refine s_gun_t (SqT.of ht) rfl ?_
  have leaf : ∀ E', sp_Lleaf Z [.ref p, .int bx] H1 Q E' := fun E' => by
    refine cl_Lleaf ⟨p, bx, rfl, rfl, hb, S1, fun l2 t2 H2 hl2 hv2 ok len S2 B2 => ?_⟩
    exact q l2 t2 r _ (B1.none (S1.ne hl2) hl2) hv2 (ok hs f) (by omega) r0 (Int.le_refl _) (B2.rd nrp hlr1) S2 (But2.left (B1.trans B2))
  have go : ∀ k ns (m : Nat), own = k :: ns → 0 ≤ k → k ≤ 19 → OwnOK hs bx k ns m → ns.length ≤ 1 → many = (m : Int) → (m : Int) ≤ r → (m ≠ 0 → dd ≤ 9) →
      tSeq (tAsg (tOp (rI0 fun i j => .int (i - j)) (tOp (rIx Z.K) (tVar 4) (tC (.int 0))) (tVar 6)) (gSub (tVar 4) (tC (.int 0)) rSetL))
        (tSeq (tFor (iRng1 (tCons (tVar 6) tNil)) (gName 7) (tAsg (tOp (rAddU Z.K) (tVar 5) (tCallS (sp_Lnode Z n) (WE (fun cls d _ H => E cls d H)) (tCons (tVar 0) (tCons (tVar 1) (tCons (tVar 2) (tCons (tOp (rAddU Z.K) (tVar 3) (tC (.int 1))) (tCons (tVar 4) tNil))))))) (gName 5)))
        (tRet (tVar 5))) ⟨fun _ H' => Q .non H', Q, fun _ _ => False, fun _ _ => False⟩ [some (.ref p), some (.ref lh), some (.int bx), some (.int dd), some (.ref lr), some (.ref l), some (.int many), none] H1 := by
    rintro k ns m rfl k0 k1 ho hns rfl mr md
    walk_at "zz"
    refine s_ix_l (SqL.of hlr1) (v := .int r) rfl ?_
    walk_at "zz"
    refine c_setL 0 [.int (r - (m : Int))] hlr1 rfl rfl fun H2 B2 hlr2 => ?_
    have S2 := S1.but B2 nrp.symm
    have T2 : TupS H1 H2 := TupS.but B2 hlr1 fun ys e => by cases e
    have hl2 := B2.rd nlr.symm hl
    walk_at "zz"
    refine loop_range (fun i σ' H' => ∃ (lf : Addr) (ps : List Nd) (ri : Int) (x : Option V), ps.length = i ∧ (∀ t ∈ ps, OkN hs bx f t) ∧ H lf = none ∧ H' lf = some (.lst ((k :: (ns ++ encs ps)).map V.int)) ∧ H' lr = some (.lst [.int ri]) ∧ 0 ≤ ri ∧ ri ≤ r - m ∧ ((encs ps).length : Int) ≤ 2 * (i + (r - m) - ri) ∧
      St3 Z.K H' p ∧ But2 p lr H H' ∧ σ' = [some (.ref p), some (.ref lh), some (.int bx), some (.int dd), some (.ref lr), some (.ref lf), some (.int (m : Int)), x])
      ⟨l, [], r - m, _, rfl, fun t ht => (by cases ht), hl0, by simpa [encs] using hl2, hlr2, by omega, Int.le_refl _, by simp [encs], S2, (But2.left B1).trans (But2.right B2), rfl⟩ ?_ ?_
    · rintro i σ' H3 hi ⟨lf, ps, ri, x, hpl, hps, hlf0, hlf, hlr3, ri0, ri1, hen, S3, B3, rfl⟩
      have hm0 : m ≠ 0 := by omega
      have hdd := md hm0
      have nfp : lf ≠ p := hSt.ne hlf0
      have nfr : lf ≠ lr := (ne_of_none hlr hlf0).symm
      obtain ⟨sa, ns3, k3, l3, a1, a2, a3, hp3⟩ := hSt
      have T3 : TupS H H3 := B3.tups hp3 (fun ys e => by cases e) hlr (fun ys e => by cases e)
      have hlh3 := B3.rd nhp nrh.symm hlh
      have hP3 := hP.mono T3
      walk_at "zz"
      refine cl_Lnode ⟨p, lh, lr, hs, vs, bx, dd + 1, ri, f, rfl, rfl, rfl, rfl, rfl, by omega, by omega, by omega, hb, hok, hlh3, hP3, nrh, hlr3, ri0, by omega, S3, fun l4 t4 r4 H4 hl4 hv4 ok4 len4 r40 r41 hlr4 S4 B4 => ?_⟩
      have hlf4 := B4.rd nfp nfr hlf
      have e4 : (k :: (ns ++ encs ps)).map V.int ++ (enc t4).map V.int = (k :: (ns ++ encs (ps ++ [t4]))).map V.int := by
        rw [← List.map_append, encs_app]
        simp [encs]
      have lenb : (encs (ps ++ [t4])).length = (encs ps).length + (enc t4).length := by rw [encs_app]; simp [encs]
      refine s_add_l hlf4 hv4 (by
        rw [List.length_map, List.length_map, List.length_cons, List.length_append]
        have : 100000 ≤ sizeLine := by decide
        omega) fun l5 hl5 => ?_
      rw [e4]
      walk_at "zz"
      have n5p : l5 ≠ p := S4.ne hl5
      have n5r : l5 ≠ lr := (ne_of_none hlr4 hl5).symm
      refine ⟨l5, ps ++ [t4], r4, _, by rw [List.length_append, hpl]; rfl, fun t ht => ?_, (B3.trans B4).none n5p n5r hl5, upd_same, up_new hl5 hlr4, r40, by omega, by rw [lenb]; omega, S4.new hl5, (B3.trans B4).new hl5, rfl⟩
      rcases List.mem_append.mp ht with z | z
      · exact hps t z
      · rw [List.mem_singleton.mp z]; exact ok4
    · rintro σ' H3 ⟨lf, ps, ri, x, hpl, hps, hlf0, hlf, hlr3, ri0, ri1, hen, S3, B3, rfl⟩
      rw [Int.toNat_natCast] at hpl hen
      walk_at "zz"
      refine q lf (.mk k 0 ns ps) ri H3 hlf0 hlf ⟨k0, k1, by rw [hpl]; exact ho, hps⟩ ?_ ri0 (by omega) hlr3 S3 B3
      simp only [enc, List.length_cons, List.length_append]
      omega
  have own0 : ∃ k ns, own = k :: ns ∧ ns.length ≤ 1 := by
    rcases hown with ⟨k, e, _⟩ | ⟨k, ns, m, e, _, _, _, h, _⟩
    · exact ⟨k, [], e, Nat.zero_le _⟩
    · exact ⟨k, ns, e, h⟩
  obtain ⟨k, ns, e0, hns⟩ := own0
  walk_at "zz"
  have bad : (k < 3 ∧ ns.length < 1) ∨ ∃ m, 0 ≤ k ∧ k ≤ 19 ∧ OwnOK hs bx k ns m ∧ many = (m : Int) ∧ (k < 3 → ns.length = 1) := by
    rcases hown with ⟨k', e, h3⟩ | ⟨k', ns', m, e, h1, h2, h6, _, h4, h5⟩
    · rw [e0] at e; cases e; exact .inl ⟨h3, by simp⟩
    · rw [e0] at e; cases e; exact .inr ⟨m, h1, h2, h4, h5, h6⟩
  have ownl : (own.map V.int).length = ns.length + 1 := by rw [e0]; simp
  refine s_ix_l (SqL.of hl) (v := .int k) (at_of (j := 0) rfl (by rw [e0]; rfl)) ?_
  rcases bad with ⟨b1, b2⟩ | ⟨m, k0, k1, ho, em, b3⟩
  · walk_at "zz"
    refine s_ifdt b1 ?_
    walk_at "zz"
    refine s_ifdt (by omega) ?_
    walk_at "zz"
    exact leaf _
  walk_at "zz"
  refine s_ifd (fun c => ?_) (fun c => ?_)
  · walk_at "zz"
    refine s_ifdf (by omega) ?_
    walk_at "zz"
    refine s_ix_l (SqL.of hlr1) (v := .int r) rfl ?_
    walk_at "zz"
    refine s_ifd (fun d1 => ?_) (fun d1 => ?_)
    · walk_at "zz"
      exact leaf _
    walk_at "zz"
    refine s_ifd (fun d2 => ?_) (fun d2 => ?_)
    · walk_at "zz"
      refine s_ifd (fun d3 => ?_) (fun d3 => ?_)
      · walk_at "zz"
        exact leaf _
      · refine s_next ?_
        exact go k ns m e0 k0 k1 ho hns em (by omega) (fun _ => by omega)
    · refine s_iff ?_
      refine s_next ?_
      exact go k ns m e0 k0 k1 ho hns em (by omega) (fun z => by omega)
  · skip
    walk_at "zz"
    refine s_ix_l (SqL.of hlr1) (v := .int r) rfl ?_
    walk_at "zz"
    refine s_ifd (fun d1 => ?_) (fun d1 => ?_)
    · walk_at "zz"
      exact leaf _
    walk_at "zz"
    refine s_ifd (fun d2 => ?_) (fun d2 => ?_)
    · walk_at "zz"
      refine s_ifd (fun d3 => ?_) (fun d3 => ?_)
      · walk_at "zz"
        exact leaf _
      · refine s_next ?_
        exact go k ns m e0 k0 k1 ho hns em (by omega) (fun _ => by omega)
    · refine s_iff ?_
      refine s_next ?_
      exact go k ns m e0 k0 k1 ho hns em (by omega) (fun z => by omega)

theorem rd_Lsheet {Z : Adr} (T : Top Z) {a0 a1 : V} {H : Hp} {Q : VK} {E : XK} (h : q_Lsheet Z a0 a1 H Q E) : t_Lsheet Z (fun cls d _ H => E cls d H) ⟨fun _ H' => Q .non H', Q, fun _ _ => False, fun _ _ => False⟩ [some a0, some a1, none, none, none, none] H := by
  unfold t_Lsheet
  obtain ⟨p, m, rfl, rfl, m0, m1, hSt, q⟩ := h
  walk_at "zz"
  refine cl_Lheads ⟨p, rfl, hSt, fun lh hs vs H1 hok hlh0 hlh hP S1 B1 => ?_⟩
  have n2 := hok.2.1
  walk_at "zz"
  rw [hP.len]
  intro l hl
  have nlp : l ≠ p := S1.ne hl
  have nhl : lh ≠ l := ne_of_none hlh hl
  have hl0 : H l = none := B1.none nlp hl
  have nhp : lh ≠ p := hSt.ne hlh0
  walk_at "zz"
  refine loop_list vs (fun i σ' H' => ∃ (x4 x5 : Option V), H' lh = some (.lst vs) ∧ PairsAt H' hs vs ∧ St3 Z.K H' p ∧ But p H H' ∧ H' l = some (.lst (((hs.length : Int) :: flat (hs.take i)).map V.int)) ∧ σ' = [some (.ref p), some (.int m), some (.ref lh), some (.ref l), x4, x5])
    ⟨_, _, up_new hl hlh, hP.mono (TupS.new hl), S1.new hl, B1.new hl, upd_same, rfl⟩ (fun i σ' H' hi ⟨x4, x5, a1, _⟩ => SqL.of a1) ?_ ?_
  · rintro i v σ' H2 hv ⟨x4, x5, hlh2, hP2, S2, B2, hl2, rfl⟩
    have hi : i < hs.length := by
      have := (List.getElem?_eq_some_iff.mp hv).1
      rwa [hP.len] at this
    have ehi : hs[i]? = some hs[i] := List.getElem?_eq_getElem hi
    obtain ⟨t, et, ht⟩ := hP2.get ehi
    rw [hv] at et
    cases et
    refine s_gun_t (SqT.of ht) rfl ?_
    walk_at "zz"
    intro l3 hl3
    walk_at "zz"
    refine c_extend (up_new hl3 hl2) upd_same (by
      rw [List.length_map, List.length_cons, flat_len, List.length_take]
      have : 100000 ≤ sizeLine := by decide
      first | omega | (simp; omega)) fun H4 B4 h4 => ?_
    have T4 : TupS _ H4 := TupS.but B4 (up_new (u := .lst [.int hs[i].1, .int hs[i].2]) hl3 hl2) fun ys e => by cases e
    walk_at "zz"
    refine ⟨_, _, B4.rd nhl (up_new hl3 hlh2), (hP2.mono (TupS.new hl3)).mono T4, (S2.new hl3).but B4 nlp.symm, (B2.new hl3).own B4 hl0, ?_, rfl⟩
    rw [h4, List.take_succ_eq_append_getElem hi, flat_app]
    simp [flat]
  · rintro σ' H2 ⟨x4, x5, hlh2, hP2, S2, B2, hl2, rfl⟩
    rw [hP.len, List.take_length] at hl2
    walk_at "zz"
    refine loop_list vs (fun i σ' H' => ∃ (ts : List Nd) (x4 x5 : Option V), H' lh = some (.lst vs) ∧ PairsAt H' hs vs ∧ St3 Z.K H' p ∧ But p H H' ∧ ts.length = i ∧ (∀ (j : Nat) (h : Int × Int) (t : Nd), hs[j]? = some h → ts[j]? = some t → OkN hs h.2 10 t) ∧ (encs ts).length ≤ 2002 * i ∧ H' l = some (.lst (((hs.length : Int) :: (flat hs ++ encs ts)).map V.int)) ∧ σ' = [some (.ref p), some (.int m), some (.ref lh), some (.ref l), x4, x5])
      ⟨[], _, _, hlh2, hP2, S2, B2, rfl, fun j h t _ e => by simp at e, Nat.zero_le _, by simpa [encs] using hl2, rfl⟩ (fun i σ' H' hi ⟨ts, x4, x5, a1, _⟩ => SqL.of a1) ?_ ?_
    · rintro i v σ' H3 hv ⟨ts, x4, x5, hlh3, hP3, S3, B3, htl, hts, hen, hl3, rfl⟩
      have hi : i < hs.length := by
        have := (List.getElem?_eq_some_iff.mp hv).1
        rwa [hP.len] at this
      have ehi : hs[i]? = some hs[i] := List.getElem?_eq_getElem hi
      obtain ⟨t, et, ht⟩ := hP3.get ehi
      rw [hv] at et
      cases et
      refine s_gun_t (SqT.of ht) rfl ?_
      walk_at "zz"
      refine cl_Ltake ⟨p, m, rfl, rfl, m0, by omega, S3, fun v4 H4 v40 v41 S4 B4 => ?_⟩
      have hlh4 := B4.rd nhp hlh3
      have hP4 := hP3.mono (S3.tups B4)
      have hl4 := B4.rd nlp hl3
      walk_at "zz"
      intro lr hlr
      have nrh : lr ≠ lh := (ne_of_none hlh4 hlr).symm
      have nrl : l ≠ lr := ne_of_none hl4 hlr
      have nrp : lr ≠ p := S4.ne hlr
      walk_at "zz"
      have hb := (hok.2.2 _ _ ehi).2.2.2
      refine cl_Lnode ⟨p, lh, lr, hs, vs, hs[i].2, 1, v4, 10, rfl, rfl, rfl, rfl, rfl, by omega, by omega, by omega, by omega, hok, up_new hlr hlh4, hP4.mono (TupS.new hlr), nrh, upd_same, v40, by omega, S4.new hlr, fun l5 t5 r5 H5 hl5 hv5 ok5 len5 r50 r51 hr5 S5 B5 => ?_⟩
      have hl5' := B5.rd nlp nrl (up_new hlr hl4)
      have hlh5 := B5.rd nhp nrh.symm (up_new hlr hlh4)
      have hlr0 : H4 lr = none := hlr
      have B45 : But p H4 H5 := fun b o nb hb => B5 b o (nb.imp (fun z => ⟨z, ne_of_none hb hlr0⟩) id) (up_new hlr hb)
      have hP5 := hP4.mono (S4.tups B45)
      walk_at "zz"
      refine c_extend hl5' hv5 (by
        rw [List.length_map, List.length_map, List.length_cons, List.length_append, flat_len]
        have : 100000 ≤ sizeLine := by decide
        omega) fun H6 B6 h6 => ?_
      have T6 : TupS _ H6 := TupS.but B6 hl5' fun ys e => by cases e
      walk_at "zz"
      refine ⟨ts ++ [t5], _, _, B6.rd nhl hlh5, hP5.mono T6, S5.but B6 nlp.symm, ((B3.trans B4).trans B45).own B6 hl0, by rw [List.length_append, htl]; rfl, ?_, ?_, ?_, rfl⟩
      · intro j h t hj hjt
        by_cases c : j < ts.length
        · rw [List.getElem?_append_left c] at hjt
          exact hts j h t hj hjt
        · rw [List.getElem?_append_right (by omega)] at hjt
          have hz : j - ts.length = 0 := by
            have := (List.getElem?_eq_some_iff.mp hjt).1
            simp at this
            omega
          rw [hz] at hjt
          cases hjt
          have : j = i := by omega
          subst this
          rw [ehi] at hj
          cases hj
          exact ok5
      · rw [encs_app, List.length_append]
        simp only [encs, List.append_nil]
        omega
      · rw [h6, encs_app]
        simp [encs]
    · rintro σ' H3 ⟨ts, x4, x5, hlh3, hP3, S3, B3, htl, hts, hen, hl3, rfl⟩
      rw [hP.len] at htl hen
      obtain ⟨bs, e⟩ := sheet_of hok htl hts
      walk_at "zz"
      refine q l _ hs bs H3 hl0 hl3 e ?_ S3 B3
      rw [List.length_cons, List.length_append, flat_len]
      omega

theorem rd_Lown {Z : Adr} (T : Top Z) {a0 a1 a2 : V} {H : Hp} {Q : VK} {E : XK} (h : q_Lown Z a0 a1 a2 H Q E) : t_Lown Z (fun cls d _ H => E cls d H) ⟨fun _ H' => Q .non H', Q, fun _ _ => False, fun _ _ => False⟩ [some a0, some a1, some a2, none] H := by
  unfold t_Lown
  obtain ⟨ls, xs, k, bx, kind, rfl, hsq, hx, hx1, rfl, rfl, ek, q⟩ := h
  walk_at "zz"
  refine s_ixN hsq (v := .int kind) (by rw [List.getElem?_map, ek]; rfl) ?_
  walk_at "zz"
  intro t1 ht1
  have S1 := same_new (o := .tup [.int 1, .int 2]) ht1
  refine s_in_t (SqT.of upd_same) rfl rfl ?_
  rw [show inV (.int kind) [V.int 1, .int 2] = decide (kind = 1 ∨ kind = 2) from (inV_ints kind [1, 2]).trans (by simp)]
  walk_at "zz"
  refine s_ifd (fun c => ?_) (fun c => ?_)
  · walk_at "zz"
    intro t2 ht2
    refine q t2 _ (S1.trans (same_new ht2)) ?_
    rw [upd_same]
    unfold lowK highK
    rw [if_neg (by omega), if_pos c]
  walk_at "zz"
  intro t2 ht2
  have S2 := S1.trans (same_new (o := .tup [.int 3, .int 4]) ht2)
  refine s_in_t (SqT.of upd_same) rfl rfl ?_
  rw [show inV (.int kind) [V.int 3, .int 4] = decide (kind = 3 ∨ kind = 4) from (inV_ints kind [3, 4]).trans (by simp)]
  walk_at "zz"
  refine s_ifd (fun c2 => ?_) (fun c2 => ?_)
  · walk_at "zz"
    intro t3 ht3
    refine q t3 _ (S2.trans (same_new ht3)) ?_
    rw [upd_same]
    unfold lowK highK
    rw [if_pos c2, if_neg c, if_pos c2]
  walk_at "zz"
  obtain ⟨x0, e0⟩ : ∃ x0, xs[0]? = some x0 := ⟨_, List.getElem?_eq_getElem (by omega)⟩
  refine s_ixN (m := 0) (S2.seq hsq) (v := .int x0) (by rw [List.getElem?_map, e0]; rfl) ?_
  walk_at "zz"
  intro t3 ht3
  refine q t3 _ (S2.trans (same_new ht3)) ?_
  rw [upd_same]
  unfold lowK highK
  rw [if_neg c2, if_neg c, if_neg c2, List.getD_eq_getElem?_getD, e0]
  rfl

theorem rd_Lparts {Z : Adr} (T : Top Z) {a0 a1 : V} {H : Hp} {Q : VK} {E : XK} (h : q_Lparts Z a0 a1 H Q E) : t_Lparts Z (fun cls d _ H => E cls d H) ⟨fun _ H' => Q .non H', Q, fun _ _ => False, fun _ _ => False⟩ [some a0, some a1, none] H := by
  unfold t_Lparts
  obtain ⟨ls, xs, k, kind, v, rfl, hsq, rfl, ek, k0, k1, ev, e6, q⟩ := h
  have vm : ∀ {j : Nat} {y : Int}, xs[j]? = some y → (xs.map V.int)[j]? = some (V.int y) := fun e => by rw [List.getElem?_map, e]; rfl
  walk_at "zz"
  refine s_ixN hsq (vm ek) ?_
  walk_at "zz"
  refine s_ifd (fun c => ?_) (fun c => ?_)
  · walk_at "zz"
    have ev := ev (by unfold OwnK; omega)
    rw [show (k : Int) + 1 = ((k + 1 : Nat) : Int) by omega]
    refine s_ixN hsq (vm ev) ?_
    have := q H (Same.refl H)
    unfold manyK at this
    rw [if_pos c] at this
    exact this
  walk_at "zz"
  refine s_ifd (fun c2 => ?_) (fun c2 => ?_)
  · walk_at "zz"
    have ev := ev (by unfold OwnK; omega)
    rw [show (k : Int) + 1 = ((k + 1 : Nat) : Int) by omega]
    refine s_ixN hsq (vm ev) ?_
    walk_at "zz"
    have := q H (Same.refl H)
    unfold manyK at this
    rw [if_neg c, if_pos c2] at this
    exact this
  walk_at "zz"
  refine s_ifd (fun c3 => ?_) (fun c3 => ?_)
  · walk_at "zz"
    have ev := ev (by unfold OwnK; omega)
    have e6 := e6 c3
    rw [show (k : Int) + 1 = ((k + 1 : Nat) : Int) by omega]
    refine s_ixN hsq (vm ev) ?_
    walk_at "zz"
    rw [show 1 + 2 * v = (((1 + 2 * v).toNat : Nat) : Int) by omega]
    refine s_ixN hsq (vm (List.getElem?_eq_getElem e6.2)) ?_
    have := q H (Same.refl H)
    unfold manyK at this
    rw [if_neg c, if_neg c2, if_pos c3, List.getD_eq_getElem?_getD, List.getElem?_eq_getElem e6.2] at this
    exact this
  walk_at "zz"
  intro l1 hl1
  walk_at "zz"
  refine s_ixI [0, 0, 1, 0, 0, 2, 0, 1, 2, 2, 2, 2, 2, 2, 2, 2, 2, 3, 1, 0] (SqL.of upd_same) rfl k0 (by show kind < 20; omega) fun w hw ew => ?_
  have e : w = manyK xs kind v := by
    have z : ∀ n : Nat, n < 20 → ([0, 0, 1, 0, 0, 2, 0, 1, 2, 2, 2, 2, 2, 2, 2, 2, 2, 3, 1, 0] : List Int)[n]? = some w → n ≠ 3 → n ≠ 4 → n ≠ 6 → w = manyK xs (n : Int) v := by
      intro n hn
      match n, hn with
      | 0, _ | 1, _ | 2, _ | 3, _ | 4, _ | 5, _ | 6, _ | 7, _ | 8, _ | 9, _ | 10, _ | 11, _ | 12, _ | 13, _ | 14, _ | 15, _ | 16, _ | 17, _ | 18, _ | 19, _ =>
        intro e n3 n4 n6
        first
          | exact absurd rfl n3
          | exact absurd rfl n4
          | exact absurd rfl n6
          | (simp at e; subst e; rfl)
      | n + 20, h => exact absurd h (by omega)
    have := z kind.toNat (by omega) ew (by omega) (by omega) (by omega)
    rw [show ((kind.toNat : Nat) : Int) = kind by omega] at this
    exact this
  rw [e]
  exact q _ (same_new hl1)

theorem rd_Lhead_wrong {Z : Adr} (T : Top Z) {a0 : V} {H : Hp} {Q : VK} {E : XK} (h : q_Lhead_wrong Z a0 H Q E) : t_Lhead_wrong Z (fun cls d _ H => E cls d H) ⟨fun _ H' => Q .non H', Q, fun _ _ => False, fun _ _ => False⟩ [some a0, none] H := by
  unfold t_Lhead_wrong
  obtain ⟨ls, xs, rfl, hsq, q, qe⟩ := h
  have vm : ∀ {j : Nat} {y : Int}, xs[j]? = some y → (xs.map V.int)[j]? = some (V.int y) := fun e => by rw [List.getElem?_map, e]; rfl
  have er1 : ∀ {k : Nat} {w : Str}, headsP xs = .error ((k : Int), w) → ∀ {H1 : Hp} {t : Addr} {z : Int}, z = (k : Int) → Same H H1 → H1 t = none → Q (.ref t) (upd H1 t (.tup [.int z, .str w])) := fun e H1 t z hz S ht => by
    subst hz
    exact qe _ e t _ (S.trans (same_new ht)) upd_same
  walk_at "zz"
  rw [List.length_map]
  refine s_ifd (fun c => ?_) (fun c => ?_)
  · walk_at "zz"
    intro t ht
    have e : xs = [] := List.eq_nil_of_length_eq_zero (by omega)
    subst e
    exact er1 (k := 0) rfl rfl (Same.refl H) ht
  walk_at "zz"
  obtain ⟨x0, e0⟩ : ∃ x0, xs[0]? = some x0 := ⟨_, List.getElem?_eq_getElem (by omega)⟩
  refine s_ixN (m := 0) hsq (vm e0) ?_
  walk_at "zz"
  have hE : ∀ {er : Int × Str}, withinP xs 0 1 16 = .error er → headsP xs = .error er := fun e => bindR_of_err e
  by_cases c2 : 1 ≤ x0 ∧ x0 ≤ 16
  · refine s_ifdt c2.1 ?_
    walk_at "zz"
    rw [decide_eq_true c2.2]
    walk_at "zz"
    have w0 := withinP_of e0 c2.1 c2.2
    have eH : headsP xs = headsL xs x0.toNat := by unfold headsP; rw [bindR_of w0]
    refine s_ixN (m := 0) hsq (vm e0) ?_
    walk_at "zz"
    refine loop_range (fun i σ' H' => Same H H' ∧ (∃ hs, headsL xs (i / 2) = .ok hs) ∧ (i % 2 = 1 → ∃ p, withinP xs (1 + 2 * (i / 2)) 0 (if 0 < i / 2 then 4 else 0) = .ok p) ∧ i + 1 ≤ xs.length ∧ ∃ x1, σ' = [some (.ref ls), x1]) ⟨Same.refl H, ⟨[], rfl⟩, fun z => by omega, by omega, none, rfl⟩ ?_ ?_
    · rintro i σ' H1 hi ⟨S1, ⟨hs, eh⟩, ep, hl0, x1, rfl⟩
      have hi' : i / 2 < x0.toNat := by omega
      have up : ∀ {er : Int × Str}, headsL xs (i / 2 + 1) = .error er → headsP xs = .error er := fun e => by rw [eH]; exact headsL_err e hi'
      walk_at "zz"
      rw [List.length_map]
      refine s_ifd (fun c3 => ?_) (fun c3 => ?_)
      · walk_at "zz"
        intro t ht
        have due : ∀ {lo hi : Int} {k : Nat}, k = i + 1 → withinP xs k lo hi = .error ((k : Int), ("end" : Str)) := fun z => by
          unfold withinP dueP
          rw [List.getElem?_eq_none (by omega)]; rfl
        refine er1 (k := i + 1) ?_ (by omega) S1 ht
        refine up ?_
        show bindR (headsL xs (i / 2)) _ = _
        rw [bindR_of eh]
        by_cases o : i % 2 = 1
        · obtain ⟨p, e⟩ := ep o
          rw [bindR_of e]
          have z : 2 + 2 * (i / 2) = i + 1 := by omega
          rw [z, bindR_of_err (due rfl)]
        · have z : 1 + 2 * (i / 2) = i + 1 := by omega
          rw [z, bindR_of_err (due rfl)]
      obtain ⟨y, ey⟩ : ∃ y, xs[i + 1]? = some y := ⟨_, List.getElem?_eq_getElem (by omega)⟩
      have hiy : (1 : Int) + (i : Int) = ((i + 1 : Nat) : Int) := by omega
      have bad : ∀ {lo hi' : Int} {k : Nat}, k = i + 1 → ¬ (lo ≤ y ∧ y ≤ hi') → withinP xs k lo hi' = .error ((k : Int), ("range" : Str)) := fun z c => by
        subst z
        unfold withinP
        rw [bindR_of (dueP_of ey), if_neg c]
      walk_at "zz"
      refine s_ifd (fun c4 => ?_) (fun c4 => ?_)
      · have ei : i % 2 = 0 := by omega
        have ek : 1 + 2 * (i / 2) = i + 1 := by omega
        have hb : (if 0 < i / 2 then (4 : Int) else 0) = 4 * (if (1 : Int) < 1 + (i : Int) then 1 else 0) := by
          by_cases z : 0 < i / 2
          · rw [if_pos z, if_pos (by omega)]; rfl
          · rw [if_neg z, if_neg (by omega)]; rfl
        walk_at "zz"
        rw [hiy]
        refine s_ixN (S1.seq hsq) (vm ey) ?_
        walk_at "zz"
        have er2 : ¬ (0 ≤ y ∧ y ≤ (if 0 < i / 2 then (4 : Int) else 0)) → headsP xs = .error (((i + 1 : Nat) : Int), ("range" : Str)) := fun c => up (by
          show bindR (headsL xs (i / 2)) _ = _
          rw [bindR_of eh]
          refine bindR_of_err ?_
          rw [ek]
          exact bad rfl c)
        refine s_ifd (fun c5 => ?_) (fun c5 => ?_)
        · walk_at "zz"
          have e1 : (if decide ((1 : Int) < ((i + 1 : Nat) : Int)) = true then (1 : Int) else 0) = if (1 : Int) < 1 + (i : Int) then 1 else 0 := by
            rw [hiy]; by_cases z : (1 : Int) < ((i + 1 : Nat) : Int) <;> simp [z]
          rw [e1, ← hb]
          refine s_nt' ?_ ?_
          · intro c6
            walk_at "zz"
            intro t ht
            exact er2 (fun z => c6 z.2) |> fun e => er1 e rfl S1 ht
          · intro c6
            walk_at "zz"
            refine s_ifdf (by omega) ?_
            walk_at "zz"
            refine ⟨S1, ?_, fun _ => ?_, by omega, _, rfl⟩
            · rw [show (i + 1) / 2 = i / 2 by omega]; exact ⟨hs, eh⟩
            · rw [show (i + 1) / 2 = i / 2 by omega, ek]
              exact ⟨y, withinP_of ey c5 c6⟩
        · walk_at "zz"
          intro t ht
          exact er1 (er2 fun z => c5 z.1) rfl S1 ht
      · refine s_iff ?_
        have ei : i % 2 = 1 := by omega
        obtain ⟨p, ep⟩ := ep ei
        have ek : 2 + 2 * (i / 2) = i + 1 := by omega
        have ek2 : 1 + 2 * (i / 2) = i := by omega
        have ep2 := (withinP_ok ep).1
        rw [ek2] at ep2
        walk_at "zz"
        refine s_ifdt (by omega) ?_
        walk_at "zz"
        rw [show (1 : Int) + (i : Int) - 1 = ((i : Nat) : Int) by omega]
        refine s_ixN (S1.seq hsq) (vm ep2) ?_
        walk_at "zz"
        rw [hiy]
        refine s_ixN (S1.seq hsq) (vm ey) ?_
        walk_at "zz"
        have er2 : ¬ (p ≤ y ∧ y ≤ 12) → headsP xs = .error (((i + 1 : Nat) : Int), ("range" : Str)) := fun c => up (by
          show bindR (headsL xs (i / 2)) _ = _
          rw [bindR_of eh, bindR_of ep]
          refine bindR_of_err ?_
          rw [ek]
          exact bad rfl c)
        refine s_ifd (fun c5 => ?_) (fun c5 => ?_)
        · walk_at "zz"
          refine s_nt' ?_ ?_
          · intro c6
            walk_at "zz"
            intro t ht
            exact er1 (er2 fun z => c6 z.2) rfl S1 ht
          · intro c6
            walk_at "zz"
            refine ⟨S1, ?_, fun z => by omega, by omega, _, rfl⟩
            rw [show (i + 1) / 2 = i / 2 + 1 by omega]
            refine ⟨hs ++ [(p, y)], ?_⟩
            show bindR (headsL xs (i / 2)) _ = _
            rw [bindR_of eh, bindR_of ep, ek, bindR_of (withinP_of ey c5 c6)]
        · walk_at "zz"
          intro t ht
          exact er1 (er2 fun z => c5 z.1) rfl S1 ht
    · rintro σ' H1 ⟨S1, ⟨hs, eh⟩, ep, hl0, x1, rfl⟩
      walk_at "zz"
      refine q hs ?_ _ S1
      rw [eH]
      rw [show (1 + 2 * x0 - 1).toNat / 2 = x0.toNat by omega] at eh
      exact eh
  · have er : headsP xs = .error (((0 : Nat) : Int), ("range" : Str)) := hE (by unfold withinP; rw [bindR_of (dueP_of e0), if_neg c2])
    refine s_ifd (fun c3 => ?_) (fun c3 => ?_)
    · walk_at "zz"
      refine s_nt' ?_ ?_
      · intro c4
        walk_at "zz"
        intro t ht
        exact er1 er rfl (Same.refl H) ht
      · intro c4
        exact absurd ⟨c3, c4⟩ c2
    · walk_at "zz"
      intro t ht
      exact er1 er rfl (Same.refl H) ht

theorem rd_Lwrong {Z : Adr} (T : Top Z) {a0 : V} {H : Hp} {Q : VK} {E : XK} (h : q_Lwrong Z a0 H Q E) : t_Lwrong Z (fun cls d _ H => E cls d H) ⟨fun _ H' => Q .non H', Q, fun _ _ => False, fun _ _ => False⟩ [some a0, none, none, none, none, none, none, none, none, none, none] H := by
  unfold t_Lwrong
  obtain ⟨ls, xs, rfl, hl, hx, q, qe⟩ := h
  have big : 16000000 ≤ sizeLine := by decide
  have vm : ∀ {j : Nat} {y : Int}, xs[j]? = some y → (xs.map V.int)[j]? = some (V.int y) := fun e => by rw [List.getElem?_map, e]; rfl
  walk_at "zz"
  refine cl_Lhead_wrong ⟨ls, xs, rfl, SqL.of hl, fun hs eh H1 S1 => ?_, fun er ee t H1 S1 ht => ?_⟩
  rotate_left
  · walk_at "zz"
    exact qe er (bindR_of_err ee) t _ S1 ht
  obtain ⟨n1, n16, e0, eL⟩ := headsP_ok eh
  have hl1 := S1 _ _ hl
  walk_at "zz"
  refine s_rng3 ?_
  walk_at "zz"
  refine s_ixN (m := 0) (SqL.of hl1) (vm e0) ?_
  walk_at "zz"
  refine ⟨_, _, _, _, rfl, RgC.neg (i := (hs.length : Int)) (j := 0) (by omega) (by omega) (by omega) (by omega), ?_⟩
  rw [show ((hs.length : Int) - 0).toNat = hs.length by omega]
  have hsv : ∀ {j : Nat} {y : Nat × Int}, (hs.map fun h => (10, h.2)).reverse[j]? = some y → ∃ h : Int × Int, y = (10, h.2) ∧ xs[2 * (hs.length - j)]? = some h.2 ∧ j < hs.length := fun {j y} e => by
    have hj := (List.getElem?_eq_some_iff.mp e).1
    rw [List.length_reverse, List.length_map] at hj
    rw [List.getElem?_reverse (by rw [List.length_map]; exact hj), List.length_map, List.getElem?_map] at e
    obtain ⟨h, e1, e2⟩ := Option.map_eq_some_iff.mp e
    refine ⟨h, e2.symm, ?_, hj⟩
    have := (heads_at eL e1).2
    rw [show 2 + 2 * (hs.length - 1 - j) = 2 * (hs.length - j) by omega] at this
    exact this
  refine lc_rngC (fun D i H' => Same H1 H' ∧ ∃ ws, H' D = some (.lst ws) ∧ Row (WaitI H') ((hs.map fun h => (10, h.2)).reverse.take i) ws) (fun D hD => ⟨same_new hD, [], upd_same, Row.nil⟩) ?_ ?_
  · rintro D i H2 hD hi ⟨S2, ws, h2, R2⟩
    walk_at "zz"
    have hj : i < (hs.map fun h => (10, h.2)).reverse.length := by rw [List.length_reverse, List.length_map]; exact hi
    obtain ⟨hh, eh1, eh2, _⟩ := hsv (List.getElem?_eq_getElem hj)
    rw [show 2 * ((hs.length : Int) + (i : Int) * -1) = ((2 * (hs.length - i) : Nat) : Int) by omega]
    refine s_ixN (SqL.of (S2 _ _ hl1)) (vm eh2) ?_
    walk_at "zz"
    intro t ht
    have lw := R2.len
    refine c_acc (up_new ht h2) (small1000 (by rw [lw, List.length_take]; omega)) fun H3 B3 h3 => ⟨same_own (S2.trans (same_new ht)) B3 hD, _, h3, ?_⟩
    have T3 := TupS.butL B3 (up_new (u := .tup [.int 1, .int hh.2]) ht h2)
    rw [List.take_succ_eq_append_getElem hj, eh1]
    exact ((R2.imp fun _ _ _ r => r.mono (TupS.new ht)).imp fun _ _ _ r => r.mono T3).app ⟨t, rfl, T3 _ _ upd_same⟩
  · rintro D H2 hD ⟨S2, ws, h2, R2⟩
    rw [List.take_of_length_le (by rw [List.length_reverse, List.length_map]; exact Nat.le_refl _)] at R2
    have hl2 := S2 _ _ hl1
    walk_at "zz"
    refine s_ixN (m := 0) (SqL.of hl2) (vm e0) ?_
    walk_at "zz"
    have S02 := S1.trans S2
    have WF := wait_funs eh
    generalize hRR : waitP xs hs (hs.map fun h => (10, h.2)) (1 + 2 * hs.length) = RR at WF
    have hk2 : 1 + 2 * hs.length ≤ xs.length := by
      have hi : hs.length - 1 < hs.length := by omega
      have := (heads_at eL (List.getElem?_eq_getElem hi)).2
      have := (List.getElem?_eq_some_iff.mp this).1
      omega
    have out : ∀ {k : Nat} {w : Str}, RR = .error ((k : Int), w) → ∀ {H' : Hp} {t : Addr} {z : Int}, z = (k : Int) → Same H H' → H' t = none → Q (.ref t) (upd H' t (.tup [.int z, .str w])) := fun e => by
      intro H' t z hz S ht
      subst hz
      exact qe _ (WF.2 _ e) t _ (S.trans (same_new ht)) upd_same
    refine s_while (fun m σ' H' => ∃ (lw : Addr) (wk : List (Nat × Int)) (ws : List V) (k : Nat) (x4 x5 x6 x7 x8 : Option V), Same H H' ∧ H lw = none ∧ H' lw = some (.lst ws) ∧ Row (WaitI H') wk ws ∧ (∀ p ∈ wk, p.1 ≤ 10) ∧ k ≤ xs.length ∧ m = xs.length - k ∧ waitP xs hs wk.reverse k = RR ∧ wk.length ≤ 16 + 13 * k ∧
      σ' = [some (.ref ls), some .non, some (.ref lw), some (.int (k : Int)), x4, x5, x6, x7, x8, none, none]) (xs.length - (1 + 2 * hs.length)) ⟨D, (hs.map fun h => (10, h.2)).reverse, ws, 1 + 2 * hs.length, none, none, none, none, none, S02, S1.free hD, h2, R2, ?_, hk2, rfl, ?_, ?_, ?_⟩ ?_
    · intro p hp
      obtain ⟨h, _, rfl⟩ := List.mem_map.mp (List.mem_reverse.mp hp)
      exact Nat.le_refl _
    · rw [List.reverse_reverse]; exact hRR
    · rw [List.length_reverse, List.length_map]; omega
    · have : (1 : Int) + 2 * (hs.length : Int) = ((1 + 2 * hs.length : Nat) : Int) := by omega
      rw [this]; rfl
    clear h2 R2 hl2 S2 S02 hD D ws H2
    rintro m σ' H2 ⟨lw, wk, ws, k, x4, x5, x6, x7, x8, S2, nw, h2, R2, p10, hk, rfl, hW, hwl, rfl⟩
    have hl2 := S2 _ _ hl
    have lw2 := R2.len
    walk_at "zz"
    intro lq hlq
    have Sq := same_new (o := .lst []) hlq
    by_cases c0 : wk = []
    · subst c0
      have e0' : ws = [] := List.eq_nil_of_length_eq_zero lw2
      subst e0'
      refine s_ne_d (.lst (SqL.of (Sq _ _ h2)) .nil) (.lst (SqL.of upd_same) .nil) ((Sh.list (n := 0) (fun d h => by cases h)).shaped (by decide)) ((Sh.list (n := 0) (fun d h => by cases h)).shaped (by decide)) ?_
      rw [(Sh.list (n := 0) (ds := []) (fun d h => by cases h)).refl]
      walk_at "zz"
      have hW' : RR = .ok k := hW.symm
      have := WF.1 k hW'
      rw [List.length_map]
      refine s_ifd (fun c1 => ?_) (fun c1 => ?_)
      · walk_at "zz"
        intro t ht
        rw [if_pos (by omega)] at this
        exact qe _ this t _ ((S2.trans Sq).trans (same_new ht)) upd_same
      · walk_at "zz"
        rw [if_neg (by omega)] at this
        obtain ⟨r, e⟩ := this
        exact q r e _ (S2.trans Sq)
    · obtain ⟨w0, ⟨f, bx⟩, rfl⟩ : ∃ w0 x, wk = w0 ++ [x] := ⟨wk.dropLast, wk.getLast c0, (List.dropLast_concat_getLast c0).symm⟩
      obtain ⟨us, v, rfl, R0, t0, rfl, ht0⟩ := Row_last R2
      refine s_ne_len (Sq _ _ h2) upd_same (by rw [List.length_append]; simp) ?_
      walk_at "zz"
      have S3 := S2.trans Sq
      have h3 := Sq _ _ h2
      have ht3 := Sq _ _ ht0
      have hl3 := Sq _ _ hl2
      have R3 : Row (WaitI (upd H2 lq (.lst []))) w0 us := R0.imp fun _ _ _ r => r.mono (TupS.of Sq)
      generalize upd H2 lq (.lst []) = H3 at *
      refine c_pop h3 (by rw [List.length_append, List.length_singleton, Nat.add_sub_cancel, List.getElem?_append_right (Nat.le_refl _), Nat.sub_self]; rfl) fun H4 B4 h4 => ?_
      rw [List.dropLast_concat] at h4
      have S4 := same_own S3 B4 nw
      have T4 := TupS.butL B4 h3
      have R4 : Row (WaitI H4) w0 us := R3.imp fun _ _ _ r => r.mono T4
      have ht4 := T4 _ _ ht3
      have hl4 := S4 _ _ hl
      clear h3 ht3 hl3 R3 S3 h2 R2 S2 R0 ht0 hl2 B4 T4
      have f10 := p10 _ (List.mem_append_right _ List.mem_cons_self)
      simp only [List.reverse_append, List.reverse_singleton, List.singleton_append] at hW
      walk_at "zz"
      refine s_ifd (fun c1 => ?_) (fun c1 => ?_)
      · walk_at "zz"
        intro t ht
        have f0 : f = 0 := by have : (10 : Int) < 11 - (f : Int) := c1; omega
        subst f0
        exact out (k := k) (w := "deep") hW.symm rfl S4 ht
      obtain ⟨g, rfl⟩ : ∃ g, f = g + 1 := ⟨f - 1, by have : ¬ (10 : Int) < 11 - (f : Int) := c1; omega⟩
      rw [wait_step] at hW
      walk_at "zz"
      rw [List.length_map]
      refine s_ifd (fun c2 => ?_) (fun c2 => ?_)
      · walk_at "zz"
        intro t ht
        refine out (k := k) (w := "end") ?_ rfl S4 ht
        rw [← hW]
        refine bindR_of_err ?_
        unfold withinP dueP
        rw [List.getElem?_eq_none (by omega)]; rfl
      obtain ⟨kind, ek⟩ : ∃ kind, xs[k]? = some kind := ⟨_, List.getElem?_eq_getElem (by omega)⟩
      walk_at "zz"
      refine s_ixN (SqL.of hl4) (vm ek) ?_
      walk_at "zz"
      by_cases ck : 0 ≤ kind ∧ kind ≤ 19
      rotate_left
      · have bad : RR = .error ((k : Int), ("range" : Str)) := by
          rw [← hW]
          refine bindR_of_err ?_
          unfold withinP
          rw [bindR_of (dueP_of ek), if_neg ck]
        refine s_ifd (fun c3 => ?_) (fun c3 => ?_)
        · walk_at "zz"
          refine s_nt' ?_ ?_
          · intro c4
            walk_at "zz"
            intro t ht
            exact out bad rfl S4 ht
          · intro c4
            exact absurd ⟨c3, c4⟩ ck
        · walk_at "zz"
          intro t ht
          exact out bad rfl S4 ht
      refine s_ifdt ck.1 ?_
      walk_at "zz"
      refine s_nft ck.2 ?_
      rw [bindR_of (withinP_of ek ck.1 ck.2)] at hW
      have OK := own_k (bx := bx) (k := k + 1) eh ck.1 ck.2
      walk_at "zz"
      refine s_ixN (SqL.of hl4) (vm ek) ?_
      walk_at "zz"
      intro t5 ht5
      have S5 := S4.trans (same_new (o := .tup [.int 0, .int 1, .int 2, .int 3, .int 4, .int 6]) ht5)
      have T5 := TupS.new (o := .tup [.int 0, .int 1, .int 2, .int 3, .int 4, .int 6]) ht5
      have h5 := up_new (u := .tup [.int 0, .int 1, .int 2, .int 3, .int 4, .int 6]) ht5 h4
      have R5 : Row (WaitI _) w0 us := R4.imp fun _ _ _ r => r.mono T5
      have hl5 := S5 _ _ hl
      refine s_in_t (SqT.of upd_same) rfl rfl ?_
      rw [show inV (.int kind) [V.int 0, .int 1, .int 2, .int 3, .int 4, .int 6] = decide (kind = 0 ∨ kind = 1 ∨ kind = 2 ∨ kind = 3 ∨ kind = 4 ∨ kind = 6) from (inV_ints kind [0, 1, 2, 3, 4, 6]).trans (by simp)]
      generalize upd H4 t5 (.tup [.int 0, .int 1, .int 2, .int 3, .int 4, .int 6]) = H5 at *
      walk_at "zz"
      have hk1 : (k : Int) + 1 = ((k + 1 : Nat) : Int) := by omega
      -- behind the look at the own number
      have fin : ∀ (o : List Int × Int × Nat) (ow : Int) (v : Int), ownP xs hs bx kind (k + 1) = .ok o → o.2.1 = manyK xs kind v → o.2.2 = k + 1 + ow.toNat → 0 ≤ ow → o.2.2 ≤ xs.length → (OwnK kind → xs[k + 1]? = some v) → (kind = 6 → 0 ≤ v ∧ (1 + 2 * v).toNat < xs.length) →
          ∀ {H6 : Hp} {x7 x8 : Option V} {rr : VK} {bb cc : L2.St → Hp → Prop}, Same H5 H6 → tSeq (tAsg (tOp (rAddU Z.K) (tVar 2) (tOp rRep (tLst (tCons (tTup (tCons (tOp (rAddU Z.K) (tVar 4) (tC (.int 1))) (tCons (tVar 5) tNil))) tNil)) (tCallS (sp_Lparts Z) (WE fun cls d _ H => E cls d H) (tCons (tVar 0) (tCons (tVar 3) tNil))))) (gName 2))
            (tAsg (tOp (rAddU Z.K) (tOp (rAddU Z.K) (tVar 3) (tC (.int 1))) (tVar 6)) (gName 3)) ⟨fun σ2 H2 => ∃ m', m' < xs.length - k ∧ ∃ (lw : Addr) (wk : List (Nat × Int)) (ws : List V) (k : Nat) (x4 x5 x6 x7 x8 : Option V), Same H H2 ∧ H lw = none ∧ H2 lw = some (.lst ws) ∧ Row (WaitI H2) wk ws ∧ (∀ p ∈ wk, p.1 ≤ 10) ∧ k ≤ xs.length ∧ m' = xs.length - k ∧ waitP xs hs wk.reverse k = RR ∧ wk.length ≤ 16 + 13 * k ∧
                σ2 = [some (.ref ls), some .non, some (.ref lw), some (.int (k : Int)), x4, x5, x6, x7, x8, none, none], rr, bb, cc⟩
            [some (.ref ls), some .non, some (.ref lw), some (.int (k : Int)), some (.int (11 - ((g + 1 : Nat) : Int))), some (.int bx), some (.int ow), x7, x8, none, none] H6 := by
        intro o ow v eo em ep ow0 hle ev e6 H6 x7 x8 rr bb cc S56
        have S6 := S5.trans S56
        have hB : ∀ h ∈ hs, 0 ≤ h.1 ∧ h.1 ≤ 12 := fun h m => by have := headsL_all eL h m; omega
        have most := ownP_most hB eo
        rw [em] at most
        walk_at "zz"
        intro t7 ht7
        walk_at "zz"
        intro l8 hl8
        have S8 := (S56.trans (same_new (o := .tup [.int (11 - ((g + 1 : Nat) : Int) + 1), .int bx]) ht7)).trans (same_new (o := .lst [.ref t7]) hl8)
        have ht78 := up_new (u := .lst [.ref t7]) hl8 (upd_same (H := H6) (a := t7) (o := .tup [.int (11 - ((g + 1 : Nat) : Int) + 1), .int bx]))
        have hl88 : upd (upd H6 t7 (.tup [.int (11 - ((g + 1 : Nat) : Int) + 1), .int bx])) l8 (.lst [.ref t7]) l8 = some (.lst [.ref t7]) := upd_same
        generalize upd (upd H6 t7 (.tup [.int (11 - ((g + 1 : Nat) : Int) + 1), .int bx])) l8 (.lst [.ref t7]) = H8 at *
        walk_at "zz"
        refine cl_Lparts ⟨ls, xs, k, kind, v, rfl, SqL.of (S8 _ _ hl5), rfl, ek, ck.1, ck.2, ev, e6, fun H9 S9 => ?_⟩
        have lw0 := R5.len
        rw [List.length_append, List.length_singleton] at hwl
        refine s_rep (S9 _ _ hl88) (by omega) (by show 1 * _ ≤ _; omega) fun l10 hl10 => ?_
        refine s_add_l (up_new hl10 (S9 _ _ (S8 _ _ h5))) upd_same (by rw [lw0]; simp only [List.length_flatten, List.map_replicate, List.sum_replicate_nat, List.length_singleton]; omega) fun l11 hl11 => ?_
        have S10 := S9.trans (same_new (o := .lst (List.replicate (manyK xs kind v).toNat [V.ref t7]).flatten) hl10)
        have S11 := (S8.trans S10).trans (same_new (o := .lst (us ++ (List.replicate (manyK xs kind v).toNat [V.ref t7]).flatten)) hl11)
        walk_at "zz"
        have efl : (List.replicate (manyK xs kind v).toNat [V.ref t7]).flatten = List.replicate (manyK xs kind v).toNat (V.ref t7) := by
          generalize (manyK xs kind v).toNat = n
          induction n with
          | zero => rfl
          | succ n ih => rw [List.replicate_succ, List.flatten_cons, ih, List.replicate_succ]; rfl
        have hkk : (k : Int) + 1 + ow = ((o.2.2 : Nat) : Int) := by omega
        refine ⟨xs.length - o.2.2, by omega, l11, w0 ++ List.replicate (manyK xs kind v).toNat (g, bx), us ++ List.replicate (manyK xs kind v).toNat (V.ref t7), o.2.2, _, _, _, _, _, S5.trans S11, (S5.trans (S8.trans S10)).free hl11, by rw [upd_same, efl], ?_, ?_, hle, rfl, ?_, ?_, by rw [hkk]; rfl⟩
        · refine (R5.imp fun _ _ _ r => r.mono (TupS.of S11)).append (Row_rep ⟨t7, rfl, ?_⟩ _)
          rw [same_new hl11 _ _ (S10 _ _ ht78)]
          show some (HO.tup [V.int (11 - ((g + 1 : Nat) : Int) + 1), V.int bx]) = some (HO.tup [V.int (11 - ((g : Nat) : Int)), V.int bx])
          rw [show (11 : Int) - ((g + 1 : Nat) : Int) + 1 = 11 - (g : Int) by omega]
        · intro p hp
          rcases List.mem_append.mp hp with z | z
          · exact p10 p (List.mem_append_left _ z)
          · rw [List.eq_of_mem_replicate z]; show g ≤ 10; have : g + 1 ≤ 10 := f10; omega
        · rw [List.reverse_append, List.reverse_replicate, ← em]
          rw [← hW, bindR_of eo]
        · rw [List.length_append, List.length_replicate]; omega
      by_cases co : kind = 0 ∨ kind = 1 ∨ kind = 2 ∨ kind = 3 ∨ kind = 4 ∨ kind = 6
      · have co' : OwnK kind := co
        rw [decide_eq_true co, if_pos rfl]
        walk_at "zz"
        refine s_ifdt rfl ?_
        walk_at "zz"
        rw [List.length_map]
        refine s_ifd (fun c5 => ?_) (fun c5 => ?_)
        · walk_at "zz"
          intro t ht
          refine out (k := k + 1) (w := "end") ?_ (by omega) S5 ht
          rw [← hW]
          exact bindR_of_err (OK.2.1 co' (by omega))
        obtain ⟨v, ev⟩ : ∃ v, xs[k + 1]? = some v := ⟨_, List.getElem?_eq_getElem (by omega)⟩
        have hl7 : k + 1 < xs.length := by omega
        have OV := OK.2.2 co' v ev
        walk_at "zz"
        refine s_cut (fun σ' H' => Same H5 H' ∧ (kind = 0 ∨ lowK kind ≤ v ∧ v ≤ highK xs bx kind) ∧ ∃ x7 x8, σ' = [some (.ref ls), some .non, some (.ref lw), some (.int (k : Int)), some (.int (11 - ((g + 1 : Nat) : Int))), some (.int bx), some (.int 1), x7, x8, none, none]) ?_ ?_
        · walk_at "zz"
          refine s_ifdt rfl ?_
          walk_at "zz"
          refine s_ixN (SqL.of hl5) (vm ek) ?_
          walk_at "zz"
          refine s_ifd (fun c6 => ?_) (fun c6 => ?_)
          · walk_at "zz"
            refine cl_Lown ⟨ls, xs, k, bx, kind, rfl, SqL.of hl5, hx, by omega, rfl, rfl, ek, fun t6 H6 S6 ht6 => ?_⟩
            walk_at "zz"
            rw [hk1]
            refine s_ixN (SqL.of (S6 _ _ hl5)) (vm ev) ?_
            walk_at "zz"
            by_cases cr : lowK kind ≤ v ∧ v ≤ highK xs bx kind
            · refine s_ifdt cr.1 ?_
              walk_at "zz"
              refine s_nft cr.2 ?_
              walk_at "zz"
              exact ⟨S6, .inr cr, _, _, rfl⟩
            · have bad : RR = .error (((k + 1 : Nat) : Int), ("range" : Str)) := by
                rw [← hW]
                exact bindR_of_err (OV.2 (by omega) cr)
              refine s_ifd (fun c7 => ?_) (fun c7 => ?_)
              · walk_at "zz"
                refine s_nt' ?_ ?_
                · intro c8
                  walk_at "zz"
                  intro t ht
                  exact out bad (by omega) (S5.trans S6) ht
                · intro c8
                  exact absurd ⟨c7, c8⟩ cr
              · walk_at "zz"
                intro t ht
                exact out bad (by omega) (S5.trans S6) ht
          · walk_at "zz"
            exact ⟨Same.refl _, .inl (by omega), _, _, rfl⟩
        · rintro σ' H6 ⟨S6, cr, x7', x8', rfl⟩
          have eo := OV.1 cr
          refine fin _ 1 v eo rfl rfl (by omega) (by show k + 1 + 1 ≤ _; omega) (fun _ => ev) (fun z => ?_) S6
          subst z
          rcases cr with z | z
          · omega
          · unfold lowK highK at z
            rw [if_neg (by omega), if_neg (by omega), if_neg (by omega), List.getD_eq_getElem?_getD, e0] at z
            have z2 : 0 ≤ v ∧ v ≤ (hs.length : Int) - 1 := z
            omega
      · have co' : ¬ OwnK kind := co
        rw [decide_eq_false co, if_neg Bool.false_ne_true]
        walk_at "zz"
        refine s_ifdf (by omega) ?_
        walk_at "zz"
        refine s_cut (fun σ' H' => Same H5 H' ∧ ∃ x7 x8, σ' = [some (.ref ls), some .non, some (.ref lw), some (.int (k : Int)), some (.int (11 - ((g + 1 : Nat) : Int))), some (.int bx), some (.int 0), x7, x8, none, none]) ?_ ?_
        · walk_at "zz"
          refine s_ifdf (by omega) ?_
          walk_at "zz"
          exact ⟨Same.refl _, _, _, rfl⟩
        · rintro σ' H6 ⟨S6, x7', x8', rfl⟩
          have eo := OK.1 co'
          have eo2 : ownP xs hs bx kind (k + 1) = .ok ([], manyK xs kind 0, k + 1) := eo
          refine fin _ 0 0 eo2 rfl rfl (by omega) (by show k + 1 ≤ _; omega) (fun z => absurd z co') (fun z => absurd (.inr (.inr (.inr (.inr (.inr z))))) co') S6

theorem rd_Lbent {Z : Adr} (T : Top Z) {a0 a1 : V} {H : Hp} {Q : VK} {E : XK} (h : q_Lbent Z a0 a1 H Q E) : t_Lbent Z (fun cls d _ H => E cls d H) ⟨fun _ H' => Q .non H', Q, fun _ _ => False, fun _ _ => False⟩ [some a0, some a1, none, none, none, none, none, none] H := by
  unfold t_Lbent
  obtain ⟨p, l, xs, rfl, rfl, hSt, hl, hx, q⟩ := h
  have big : 1000000 ≤ sizeLine := by decide
  walk_at "zz"
  intro lf hlf
  have Sf := hSt.new (o := .lst (xs.map V.int)) hlf
  walk_at "zz"
  refine cl_Ltake ⟨p, 2, rfl, rfl, by omega, by omega, Sf, fun v H1 v0 v1 S1 B1 => ?_⟩
  have hlf1 := B1.rd (hSt.ne hlf) (upd_same (H := H) (a := lf) (o := .lst (xs.map V.int)))
  have B01 : But p H H1 := ((But.refl p H).new hlf).trans B1
  walk_at "zz"
  refine loop_range (fun i σ' H' => ∃ (lf : Addr) (ys : List Int) (x3 x4 x5 x6 : Option V), St3 Z.K H' p ∧ But p H H' ∧ H lf = none ∧ H' lf = some (.lst (ys.map V.int)) ∧ ys.length ≤ 100000 + i ∧ σ' = [some (.ref p), some (.ref l), some (.ref lf), x3, x4, x5, x6, none])
    ⟨lf, xs, none, none, none, none, S1, B01, hlf, hlf1, hx, rfl⟩ ?_ ?_
  · rintro i σ' H2 hi ⟨lf, ys, x3, x4, x5, x6, S2, B2, hlf0, hlf2, hyl, rfl⟩
    walk_at "zz"
    rw [List.length_map]
    refine cl_Ltake ⟨p, ys.length + 1, rfl, rfl, by omega, by omega, S2, fun at' H3 a0 a1 S3 B3 => ?_⟩
    obtain ⟨j, rfl⟩ : ∃ j : Nat, at' = (j : Int) := ⟨at'.toNat, by omega⟩
    walk_at "zz"
    refine cl_Ltake ⟨p, 22, rfl, rfl, by omega, by omega, S3, fun v4 H4 v40 v41 S4 B4 => ?_⟩
    walk_at "zz"
    refine cl_Ltake ⟨p, 40, rfl, rfl, by omega, by omega, S4, fun v5 H5 v50 v51 S5 B5 => ?_⟩
    walk_at "zz"
    intro l6 hl6
    walk_at "zz"
    refine cl_Ltake ⟨p, 3, rfl, rfl, by omega, by omega, S5.new hl6, fun v7 H7 v70 v71 S7 B7 => ?_⟩
    have hl7 := B7.rd (S5.ne hl6) upd_same
    obtain ⟨w, hw, ew⟩ := at_ints [v4 - 1, v5 - 20, 100000000000000000000000000000000000000000000000000000000000] (i := v7) v70 (by show v7 < 3; omega)
    refine s_ix_l (SqL.of hl7) ew ?_
    walk_at "zz"
    refine cl_Ltake ⟨p, 6, rfl, rfl, by omega, by omega, S7, fun v8 H8 v80 v81 S8 B8 => ?_⟩
    have nlp := hSt.ne hlf0
    have B28 : But p H2 H8 := (((B3.trans B4).trans B5).new hl6).trans (B7.trans B8)
    have BH := B2.trans B28
    have hlf8 := B28.rd nlp hlf2
    have fresh : ∀ {H9 : Hp} {a : Addr}, St3 Z.K H9 p → But p H H9 → H9 a = none → H a = none := fun S B h => B.none (S.ne h) h
    have rest : ∀ (N0 b0 c0 : L2.St → Hp → Prop), (∀ (lg : Addr) (zs : List Int) H9, St3 Z.K H9 p → But p H H9 → H lg = none → H9 lg = some (.lst (zs.map V.int)) → zs.length ≤ ys.length + 1 → N0 [some (.ref p), some (.ref l), some (.ref lg), some (.int (0 + (i : Int))), some (.int (j : Int)), some (.int w), some (.int v8), none] H9) →
        tIfS (tTest (tOp (rEqU Z.K) (tVar 6) (tC (.int 2)))) (tAsg (tOp (rAddU Z.K) (tOp (rAddU Z.K) (tSl (rSlU Z.K) (tVar 2) tNoPart (tPart (tVar 4))) (tLst (tCons (tVar 5) tNil))) (tSl (rSlU Z.K) (tVar 2) (tPart (tVar 4)) tNoPart)) (gName 2)) (tIfS (tTest (tOp (rEqU Z.K) (tVar 6) (tC (.int 3)))) (tAsg (tOp (rAddU Z.K) (tSl (rSlU Z.K) (tVar 2) tNoPart (tPart (tVar 4))) (tSl (rSlU Z.K) (tVar 2) (tPart (tOp (rAddU Z.K) (tVar 4) (tC (.int 1)))) tNoPart)) (gName 2)) (tIfS (tTest (tOp (rEqU Z.K) (tVar 6) (tC (.int 4)))) (tAsg (tSl (rSlU Z.K) (tVar 2) tNoPart (tPart (tVar 4))) (gName 2)) (tDrop (tBM Z.K "list" rAppend (tVar 2) (tCons (tVar 5) tNil)))))
          ⟨N0, Q, b0, c0⟩ [some (.ref p), some (.ref l), some (.ref lf), some (.int (0 + (i : Int))), some (.int (j : Int)), some (.int w), some (.int v8), none] H8 := by
      intro N0 b0 c0 fin
      walk_at "zz"
      refine s_ifd (fun c => ?_) (fun c => ?_)
      · walk_at "zz"
        intro m1 hm1
        rw [cut_takeI]
        walk_at "zz"
        intro m2 hm2
        refine s_add_l (up_new hm2 upd_same) upd_same (by simp only [List.length_map, List.length_take, List.length_cons, List.length_nil]; omega) fun m3 hm3 => ?_
        walk_at "zz"
        intro m4 hm4
        rw [cut_dropI]
        refine s_add_l (up_new hm4 upd_same) upd_same (by simp only [List.length_append, List.length_map, List.length_take, List.length_drop, List.length_cons, List.length_nil]; omega) fun m5 hm5 => ?_
        walk_at "zz"
        have S9 := ((((S8.new (o := .lst ((ys.take j).map V.int)) hm1).new (o := .lst [.int w]) hm2).new (o := .lst ((ys.take j).map V.int ++ [.int w])) hm3).new (o := .lst ((ys.drop j).map V.int)) hm4)
        have B9 := ((((BH.new (o := .lst ((ys.take j).map V.int)) hm1).new (o := .lst [.int w]) hm2).new (o := .lst ((ys.take j).map V.int ++ [.int w])) hm3).new (o := .lst ((ys.drop j).map V.int)) hm4)
        refine fin m5 (ys.take j ++ [w] ++ ys.drop j) _ (S9.new hm5) (B9.new hm5) (fresh S9 B9 hm5) ?_ ?_
        · rw [upd_same]; simp
        · simp only [List.length_append, List.length_take, List.length_drop, List.length_cons, List.length_nil]; omega
      walk_at "zz"
      refine s_ifd (fun c => ?_) (fun c => ?_)
      · walk_at "zz"
        intro m1 hm1
        rw [cut_takeI]
        walk_at "zz"
        intro m4 hm4
        rw [show ((j : Int) + 1) = ((j + 1 : Nat) : Int) by omega, cut_dropI]
        refine s_add_l (up_new hm4 upd_same) upd_same (by simp only [List.length_append, List.length_map, List.length_take, List.length_drop]; omega) fun m5 hm5 => ?_
        walk_at "zz"
        have S9 := (S8.new (o := .lst ((ys.take j).map V.int)) hm1).new (o := .lst ((ys.drop (j + 1)).map V.int)) hm4
        have B9 := (BH.new (o := .lst ((ys.take j).map V.int)) hm1).new (o := .lst ((ys.drop (j + 1)).map V.int)) hm4
        refine fin m5 (ys.take j ++ ys.drop (j + 1)) _ (S9.new hm5) (B9.new hm5) (fresh S9 B9 hm5) ?_ ?_
        · rw [upd_same]; simp
        · simp only [List.length_append, List.length_take, List.length_drop]; omega
      walk_at "zz"
      refine s_ifd (fun c => ?_) (fun c => ?_)
      · walk_at "zz"
        intro m1 hm1
        rw [cut_takeI]
        walk_at "zz"
        exact fin m1 (ys.take j) _ (S8.new hm1) (BH.new hm1) (fresh S8 BH hm1) upd_same (by rw [List.length_take]; omega)
      · walk_at "zz"
        refine c_append hlf8 (by rw [List.length_map]; omega) fun H9 B9 h9 => ?_
        walk_at "zz"
        exact fin lf (ys ++ [w]) H9 (S8.but B9 nlp.symm) (BH.own B9 hlf0) hlf0 (by rw [h9, List.map_append]; rfl) (by rw [List.length_append]; exact Nat.le_refl _)
    have fin0 : ∀ (lg : Addr) (zs : List Int) H9, St3 Z.K H9 p → But p H H9 → H lg = none → H9 lg = some (.lst (zs.map V.int)) → zs.length ≤ ys.length + 1 → ∃ (lf : Addr) (ys : List Int) (x3 x4 x5 x6 : Option V), St3 Z.K H9 p ∧ But p H H9 ∧ H lf = none ∧ H9 lf = some (.lst (ys.map V.int)) ∧ ys.length ≤ 100000 + (i + 1) ∧
        [some (.ref p), some (.ref l), some (.ref lg), some (.int (0 + (i : Int))), some (.int (j : Int)), some (.int w), some (.int v8), none] = [some (.ref p), some (.ref l), some (.ref lf), x3, x4, x5, x6, none] := fun lg zs H9 a1 a2 a3 a4 a5 => ⟨lg, zs, _, _, _, _, a1, a2, a3, a4, by omega, rfl⟩
    walk_at "zz"
    refine s_ifd (fun c => ?_) (fun c => ?_)
    · walk_at "zz"
      rw [List.length_map]
      refine s_ifd (fun c2 => ?_) (fun c2 => ?_)
      · walk_at "zz"
        have hj : j < ys.length := by omega
        refine c_setL j ((ys.set j w).map V.int) hlf8 (ix_nat (by rw [List.length_map]; exact hj)) List.map_set.symm fun H9 B9 h9 => ?_
        walk_at "zz"
        exact fin0 lf (ys.set j w) H9 (S8.but B9 nlp.symm) (BH.own B9 hlf0) hlf0 h9 (by rw [List.length_set]; omega)
      · exact rest _ _ _ fin0
    · refine s_iff ?_
      exact rest _ _ _ fin0
  · rintro σ' H2 ⟨lf, ys, x3, x4, x5, x6, S2, B2, hlf0, hlf2, hyl, rfl⟩
    have hyl : ys.length ≤ 100002 := by omega
    walk_at "zz"
    refine s_cut (fun σ' H' => ∃ (lf : Addr) (ys : List Int) (x3 x4 x5 x6 x7 : Option V), St3 Z.K H' p ∧ But p H H' ∧ H lf = none ∧ H' lf = some (.lst (ys.map V.int)) ∧ ys.length ≤ 100100 ∧ σ' = [some (.ref p), some (.ref l), some (.ref lf), x3, x4, x5, x6, x7]) ?_ ?_
    · walk_at "zz"
      refine cl_Ltake ⟨p, 5, rfl, rfl, by omega, by omega, S2, fun v3 H3 v30 v31 S3 B3 => ?_⟩
      have BH3 := B2.trans B3
      walk_at "zz"
      refine s_ifd (fun c => ?_) (fun c => ?_)
      · walk_at "zz"
        intro b1 hb1
        walk_at "zz"
        intro b2 hb2
        walk_at "zz"
        intro b3 hb3
        walk_at "zz"
        intro b4 hb4
        walk_at "zz"
        intro b5 hb5
        walk_at "zz"
        intro b6 hb6
        walk_at "zz"
        intro b7 hb7
        walk_at "zz"
        intro b8 hb8
        walk_at "zz"
        intro b9 hb9
        walk_at "zz"
        intro b10 hb10
        walk_at "zz"
        intro b11 hb11
        walk_at "zz"
        intro b12 hb12
        walk_at "zz"
        intro b13 hb13
        walk_at "zz"
        intro b14 hb14
        walk_at "zz"
        intro b15 hb15
        walk_at "zz"
        intro b16 hb16
        refine s_add_l (up_new hb16 (up_new hb15 upd_same)) upd_same (by show 13 + 1 ≤ sizeLine; decide) fun b17 hb17 => ?_
        have S17 := ((((((((((((((((S3.new (o := .lst [.int 7]) hb1).new (o := .lst [.int 18]) hb2).new (o := .lst [.int 3, .int 1]) hb3).new (o := .lst [.int 8, .int 19]) hb4).new (o := .lst [.int 5, .int 19]) hb5).new (o := .lst [.int 15, .int 19]) hb6).new (o := .lst [.int 2, .int 0]) hb7).new (o := .lst [.int 4, .int 2]) hb8).new (o := .lst [.int 4, .int 2, .int 19]) hb9).new (o := .lst [.int 17]) hb10).new (o := .lst [.int 16]) hb11).new (o := .lst [.int 5]) hb12).new (o := .lst [.int 6, .int 1]) hb13).new (o := .lst [.ref b1, .ref b2, .ref b3, .ref b4, .ref b5, .ref b6, .ref b7, .ref b8, .ref b9, .ref b10, .ref b11, .ref b12, .ref b13]) hb14).new (o := .lst [.int 17, .int 19, .int 19]) hb15).new (o := .lst [.ref b15]) hb16)
        have B17 := ((((((((((((((((BH3.new (o := .lst [.int 7]) hb1).new (o := .lst [.int 18]) hb2).new (o := .lst [.int 3, .int 1]) hb3).new (o := .lst [.int 8, .int 19]) hb4).new (o := .lst [.int 5, .int 19]) hb5).new (o := .lst [.int 15, .int 19]) hb6).new (o := .lst [.int 2, .int 0]) hb7).new (o := .lst [.int 4, .int 2]) hb8).new (o := .lst [.int 4, .int 2, .int 19]) hb9).new (o := .lst [.int 17]) hb10).new (o := .lst [.int 16]) hb11).new (o := .lst [.int 5]) hb12).new (o := .lst [.int 6, .int 1]) hb13).new (o := .lst [.ref b1, .ref b2, .ref b3, .ref b4, .ref b5, .ref b6, .ref b7, .ref b8, .ref b9, .ref b10, .ref b11, .ref b12, .ref b13]) hb14).new (o := .lst [.int 17, .int 19, .int 19]) hb15).new (o := .lst [.ref b15]) hb16)
        have all := IntLs.mono (vs := [.ref b1, .ref b2, .ref b3, .ref b4, .ref b5, .ref b6, .ref b7, .ref b8, .ref b9, .ref b10, .ref b11, .ref b12, .ref b13, .ref b15]) (same_new (o := .lst [.ref b1, .ref b2, .ref b3, .ref b4, .ref b5, .ref b6, .ref b7, .ref b8, .ref b9, .ref b10, .ref b11, .ref b12, .ref b13, .ref b15]) hb17) (by
          intro v hv
          simp only [List.mem_cons, List.not_mem_nil, or_false] at hv
          rcases hv with rfl | rfl | rfl | rfl | rfl | rfl | rfl | rfl | rfl | rfl | rfl | rfl | rfl | rfl
          all_goals skip
          · exact ⟨b1, [7], rfl, up_new hb16 (up_new hb15 (up_new hb14 (up_new hb13 (up_new hb12 (up_new hb11 (up_new hb10 (up_new hb9 (up_new hb8 (up_new hb7 (up_new hb6 (up_new hb5 (up_new hb4 (up_new hb3 (up_new hb2 (upd_same))))))))))))))), by decide⟩
          · exact ⟨b2, [18], rfl, up_new hb16 (up_new hb15 (up_new hb14 (up_new hb13 (up_new hb12 (up_new hb11 (up_new hb10 (up_new hb9 (up_new hb8 (up_new hb7 (up_new hb6 (up_new hb5 (up_new hb4 (up_new hb3 (upd_same)))))))))))))), by decide⟩
          · exact ⟨b3, [3, 1], rfl, up_new hb16 (up_new hb15 (up_new hb14 (up_new hb13 (up_new hb12 (up_new hb11 (up_new hb10 (up_new hb9 (up_new hb8 (up_new hb7 (up_new hb6 (up_new hb5 (up_new hb4 (upd_same))))))))))))), by decide⟩
          · exact ⟨b4, [8, 19], rfl, up_new hb16 (up_new hb15 (up_new hb14 (up_new hb13 (up_new hb12 (up_new hb11 (up_new hb10 (up_new hb9 (up_new hb8 (up_new hb7 (up_new hb6 (up_new hb5 (upd_same)))))))))))), by decide⟩
          · exact ⟨b5, [5, 19], rfl, up_new hb16 (up_new hb15 (up_new hb14 (up_new hb13 (up_new hb12 (up_new hb11 (up_new hb10 (up_new hb9 (up_new hb8 (up_new hb7 (up_new hb6 (upd_same))))))))))), by decide⟩
          · exact ⟨b6, [15, 19], rfl, up_new hb16 (up_new hb15 (up_new hb14 (up_new hb13 (up_new hb12 (up_new hb11 (up_new hb10 (up_new hb9 (up_new hb8 (up_new hb7 (upd_same)))))))))), by decide⟩
          · exact ⟨b7, [2, 0], rfl, up_new hb16 (up_new hb15 (up_new hb14 (up_new hb13 (up_new hb12 (up_new hb11 (up_new hb10 (up_new hb9 (up_new hb8 (upd_same))))))))), by decide⟩
          · exact ⟨b8, [4, 2], rfl, up_new hb16 (up_new hb15 (up_new hb14 (up_new hb13 (up_new hb12 (up_new hb11 (up_new hb10 (up_new hb9 (upd_same)))))))), by decide⟩
          · exact ⟨b9, [4, 2, 19], rfl, up_new hb16 (up_new hb15 (up_new hb14 (up_new hb13 (up_new hb12 (up_new hb11 (up_new hb10 (upd_same))))))), by decide⟩
          · exact ⟨b10, [17], rfl, up_new hb16 (up_new hb15 (up_new hb14 (up_new hb13 (up_new hb12 (up_new hb11 (upd_same)))))), by decide⟩
          · exact ⟨b11, [16], rfl, up_new hb16 (up_new hb15 (up_new hb14 (up_new hb13 (up_new hb12 (upd_same))))), by decide⟩
          · exact ⟨b12, [5], rfl, up_new hb16 (up_new hb15 (up_new hb14 (up_new hb13 (upd_same)))), by decide⟩
          · exact ⟨b13, [6, 1], rfl, up_new hb16 (up_new hb15 (up_new hb14 (upd_same))), by decide⟩
          · exact ⟨b15, [17, 19, 19], rfl, up_new hb16 (upd_same), by decide⟩)
        have S18 := S17.new (o := .lst ([.ref b1, .ref b2, .ref b3, .ref b4, .ref b5, .ref b6, .ref b7, .ref b8, .ref b9, .ref b10, .ref b11, .ref b12, .ref b13, .ref b15])) hb17
        have B18 := B17.new (o := .lst ([.ref b1, .ref b2, .ref b3, .ref b4, .ref b5, .ref b6, .ref b7, .ref b8, .ref b9, .ref b10, .ref b11, .ref b12, .ref b13, .ref b15])) hb17
        walk_at "zz"
        refine cl_Ltake ⟨p, 14, rfl, rfl, by omega, by omega, S18, fun v19 H19 v190 v191 S19 B19 => ?_⟩
        have h17 := B19.rd (S17.ne hb17) upd_same
        have hv19 : v19.toNat < [V.ref b1, .ref b2, .ref b3, .ref b4, .ref b5, .ref b6, .ref b7, .ref b8, .ref b9, .ref b10, .ref b11, .ref b12, .ref b13, .ref b15].length := by show v19.toNat < 14; omega
        obtain ⟨cc, zs, ev, hcc, zl⟩ := all _ (List.getElem_mem hv19)
        refine s_ix_l (SqL.of h17) (v := .ref cc) (at_of (j := v19.toNat) (by omega) ((List.getElem?_eq_getElem hv19).trans (congrArg some ev))) ?_
        have hcc19 := B19.rd (S18.nei hcc) hcc
        walk_at "zz"
        intro c1 hc1
        walk_at "zz"
        refine cl_Ltake ⟨p, 5, rfl, rfl, by omega, by omega, S19.new hc1, fun v20 H20 v200 v201 S20 B20 => ?_⟩
        have hc20 := B20.rd (S19.ne hc1) upd_same
        have hcc20 := B20.rd (S19.nei hcc19) (up_new hc1 hcc19)
        have m1 : zs.length * (7 + v20).toNat ≤ 33 := Nat.mul_le_mul zl (show (7 + v20).toNat ≤ 11 by omega)
        walk_at "zz"
        refine s_rep hcc20 (by omega) (by rw [List.length_map]; omega) fun c2 hc2 => ?_
        have fl : (List.replicate (7 + v20).toNat (zs.map V.int)).flatten.length = (7 + v20).toNat * zs.length := by simp
        rw [Nat.mul_comm] at m1
        refine s_add_l (up_new hc2 hc20) upd_same (by rw [fl]; simp only [List.length_cons, List.length_nil]; omega) fun c3 hc3 => ?_
        walk_at "zz"
        intro c4 hc4
        walk_at "zz"
        refine cl_Ltake ⟨p, 3, rfl, rfl, by omega, by omega, ((S20.new hc2).new hc3).new hc4, fun v21 H21 v210 v211 S21 B21 => ?_⟩
        have h421 := B21.rd (((S20.new hc2).new hc3).ne hc4) upd_same
        have h321 := B21.rd ((S20.new hc2).ne hc3) (up_new hc4 upd_same)
        refine s_rep h421 (by omega) (by show 1 * v21.toNat ≤ _; omega) fun c5 hc5 => ?_
        have fl2 : (List.replicate v21.toNat [V.int 19]).flatten.length = v21.toNat := by simp
        refine s_add_l (up_new hc5 h321) upd_same (by rw [List.length_append, fl, fl2]; simp only [List.length_cons, List.length_nil]; omega) fun c6 hc6 => ?_
        have B21' := ((((((B18.trans B19).new hc1).trans B20).new hc2).new hc3).new hc4).trans B21
        walk_at "zz"
        refine ⟨c6, [2, 0, 1, 1, 1] ++ (List.replicate (7 + v20).toNat zs).flatten ++ (List.replicate v21.toNat [19]).flatten, _, _, _, _, _, (S21.new hc5).new hc6, (B21'.new hc5).new hc6, (B21'.new hc5).none ((S21.new hc5).ne hc6) hc6, ?_, ?_, rfl⟩
        · rw [upd_same]
          simp
        · have e1 : (List.replicate (7 + v20).toNat zs).flatten.length = (7 + v20).toNat * zs.length := by simp
          have e2 : (List.replicate v21.toNat [(19 : Int)]).flatten.length = v21.toNat := by simp
          rw [List.length_append, List.length_append, e1, e2]
          simp only [List.length_cons, List.length_nil]
          omega
      · walk_at "zz"
        exact ⟨lf, ys, _, _, _, _, _, S3, BH3, hlf0, B3.rd (hSt.ne hlf0) hlf2, by omega, rfl⟩
    · rintro σ' H3 ⟨lf, ys, x3, x4, x5, x6, x7, S3, B3, a1, a2, a3, rfl⟩
      walk_at "zz"
      exact q lf ys H3 S3 B3 a1 a2 a3

theorem rd_Lheard {Z : Adr} (T : Top Z) {a0 a1 : V} {H : Hp} {Q : VK} {E : XK} (h : q_Lheard Z a0 a1 H Q E) : t_Lheard Z (fun cls d _ H => E cls d H) ⟨fun _ H' => Q .non H', Q, fun _ _ => False, fun _ _ => False⟩ [some a0, some a1, none, none, none, none] H := by
  unfold t_Lheard
  obtain ⟨w, ls, xs, rfl, rfl, hsq, hx, q0⟩ := h
  have q : ∀ r, funsP xs = .ok r → ∀ l H', Same H H' → H' l = some (.lst [.bl true, .non, .non]) → Q (.ref l) H' := fun r e l H' S h => q0 l H' S (by unfold hv; rw [e]; exact h)
  have qe : ∀ er, funsP xs = .error er → ∀ l H', Same H H' → H' l = some (.lst [.bl true, .int er.1, .str er.2]) → Q (.ref l) H' := fun r e l H' S h => q0 l H' S (by unfold hv; rw [e]; exact h)
  walk_at "zz"
  refine s_tryKeep ?_
  walk_at "zz"
  refine s_ifd (fun c => ?_) (fun c => ?_)
  · walk_at "zz"
    refine cl_functions ⟨ls, xs, rfl, hsq, fun hs bs e lf vs H1 S1 n1 h1 F1 => ?_, fun er ee d H1 S1 x => ⟨true, T.ex_NoSheet_ChainError, fun _ a ha => ?_, fun z => by cases z⟩⟩
    · walk_at "zz"
      intro l2 hl2
      exact q _ e l2 _ (S1.trans (same_new hl2)) upd_same
    · walk_at "zz"
      intro _
      have kp : Kept (upd H1 a (kxo a (.ref Z.c_NoSheet) (some d))) a Z.c_NoSheet d _ := Kept.of ha x
      have S2 : Same H (upd H1 a (kxo a (.ref Z.c_NoSheet) (some d))) := S1.trans (same_new ha)
      generalize upd H1 a (kxo a (.ref Z.c_NoSheet) (some d)) = H2 at *
      walk_at "zz"
      refine s_isKo kp T.kx_NoSheet T.ki_NoSheet_NoCode ?_
      walk_at "zz"
      refine s_isKo kp T.kx_NoSheet T.ki_NoSheet_NoName ?_
      walk_at "zz"
      refine s_isKo kp T.kx_NoSheet T.ki_NoSheet_NoRow ?_
      walk_at "zz"
      refine s_isKo kp T.kx_NoSheet T.ki_NoSheet_NoText ?_
      walk_at "zz"
      refine s_isKo kp T.kx_NoSheet T.ki_NoSheet_NoSheet ?_
      walk_at "zz"
      refine s_isKv kp T.kx_NoSheet T.kv_NoSheet ?_
      walk_at "zz"
      refine s_kf ?_
      walk_at "zz"
      refine s_zkf kp T.xf_NoSheet T.na_NoSheet_place (v := .int er.1) (by rw [lk_ne (by decide +kernel), lk_eq]) ?_
      walk_at "zz"
      refine s_kf ?_
      walk_at "zz"
      refine s_zkf kp T.xf_NoSheet T.na_NoSheet_place (v := .int er.1) (by rw [lk_ne (by decide +kernel), lk_eq]) ?_
      walk_at "zz"
      refine s_kf ?_
      walk_at "zz"
      refine s_zkf kp T.xf_NoSheet T.na_NoSheet_word (v := .str er.2) lk_eq ?_
      walk_at "zz"
      intro l2 hl2
      exact qe er ee l2 _ (S2.trans (same_new hl2)) upd_same
  · walk_at "zz"
    refine cl_nodes ⟨ls, xs, rfl, hsq, hx, fun hs bs e lf vs H1 S1 n1 h1 F1 => ?_, fun er ee d H1 S1 x => ⟨true, T.ex_NoSheet_ChainError, fun _ a ha => ?_, fun z => by cases z⟩⟩
    · walk_at "zz"
      intro l2 hl2
      exact q _ e l2 _ (S1.trans (same_new hl2)) upd_same
    · walk_at "zz"
      intro _
      have kp : Kept (upd H1 a (kxo a (.ref Z.c_NoSheet) (some d))) a Z.c_NoSheet d _ := Kept.of ha x
      have S2 : Same H (upd H1 a (kxo a (.ref Z.c_NoSheet) (some d))) := S1.trans (same_new ha)
      generalize upd H1 a (kxo a (.ref Z.c_NoSheet) (some d)) = H2 at *
      walk_at "zz"
      refine s_isKo kp T.kx_NoSheet T.ki_NoSheet_NoCode ?_
      walk_at "zz"
      refine s_isKo kp T.kx_NoSheet T.ki_NoSheet_NoName ?_
      walk_at "zz"
      refine s_isKo kp T.kx_NoSheet T.ki_NoSheet_NoRow ?_
      walk_at "zz"
      refine s_isKo kp T.kx_NoSheet T.ki_NoSheet_NoText ?_
      walk_at "zz"
      refine s_isKo kp T.kx_NoSheet T.ki_NoSheet_NoSheet ?_
      walk_at "zz"
      refine s_isKv kp T.kx_NoSheet T.kv_NoSheet ?_
      walk_at "zz"
      refine s_kf ?_
      walk_at "zz"
      refine s_zkf kp T.xf_NoSheet T.na_NoSheet_place (v := .int er.1) (by rw [lk_ne (by decide +kernel), lk_eq]) ?_
      walk_at "zz"
      refine s_kf ?_
      walk_at "zz"
      refine s_zkf kp T.xf_NoSheet T.na_NoSheet_place (v := .int er.1) (by rw [lk_ne (by decide +kernel), lk_eq]) ?_
      walk_at "zz"
      refine s_kf ?_
      walk_at "zz"
      refine s_zkf kp T.xf_NoSheet T.na_NoSheet_word (v := .str er.2) lk_eq ?_
      walk_at "zz"
      intro l2 hl2
      exact qe er ee l2 _ (S2.trans (same_new hl2)) upd_same

theorem rd_Ledge {Z : Adr} (T : Top Z) {a0 : V} {H : Hp} {Q : VK} {E : XK} (h : q_Ledge Z a0 H Q E) : t_Ledge Z (fun cls d _ H => E cls d H) ⟨fun _ H' => Q .non H', Q, fun _ _ => False, fun _ _ => False⟩ [some a0, none, none, none, none] H := by
  unfold t_Ledge
  obtain ⟨p, rfl, S, q⟩ := h
  have big : 16000000 ≤ sizeLine := by decide
  have rep : ∀ {H1 : Hp} {Q1 : VK} {l : Addr} {i : Int} (ys : List Int), H1 l = some (.lst (ys.map V.int)) → 0 ≤ i → i ≤ 20 → ys.length ≤ 2 → (∀ a H' (zs : List Int), Same H1 H' → H1 a = none → H' a = some (.lst (zs.map V.int)) → zs.length ≤ 40 → Q1 (.ref a) H') → rRep (.ref l) (.int i) H1 Q1 := fun {H1} {Q1} {l} {i} ys h1 i0 i1 hy k => by
    have m : ys.length * i.toNat ≤ 2 * 20 := Nat.mul_le_mul hy (by omega)
    refine s_rep h1 (by omega) (by rw [List.length_map]; omega) fun a ha => k a _ (List.replicate i.toNat ys).flatten (same_new ha) ha ?_ ?_
    · rw [upd_same]; simp
    · have : (List.replicate i.toNat ys).flatten.length = i.toNat * ys.length := by simp
      rw [this, Nat.mul_comm]; omega
  have add : ∀ {H1 : Hp} {Q1 : VK} {l l2 : Addr} (ys zs : List Int), H1 l = some (.lst (ys.map V.int)) → H1 l2 = some (.lst (zs.map V.int)) → ys.length + zs.length ≤ 100 → (∀ a H', Same H1 H' → H1 a = none → H' a = some (.lst ((ys ++ zs).map V.int)) → Q1 (.ref a) H') → rAddU Z.K (.ref l) (.ref l2) H1 Q1 := fun {H1} {Q1} {l} {l2} ys zs h1 h2 hy k =>
    s_add_l h1 h2 (by rw [List.length_map, List.length_map]; omega) fun a ha => k a _ (same_new ha) ha (by rw [upd_same, List.map_append])
  walk_at "zz"
  refine cl_Ltake ⟨p, 8, rfl, rfl, by omega, by omega, S, fun w H1 w0 w1 S1 B1 => ?_⟩
  walk_at "zz"
  refine cl_Ltake ⟨p, 2, rfl, rfl, by omega, by omega, S1, fun m H2 m0 m1 S2 B2 => ?_⟩
  have B02 := B1.trans B2
  have fin : ∀ {a : Addr} {ys : List Int} {H8 H9 : Hp}, St3 Z.K H8 p → But p H H8 → Same H8 H9 → H8 a = none → H9 a = some (.lst (ys.map V.int)) → ys.length ≤ 100 → Q (.ref a) H9 := fun {a} {ys} {H8} {H9} S8 B8 S89 n h l =>
    q a ys H9 (S8.same S89) (B8.trans (But.of S89)) (B8.none (S8.ne n) n) h l
  walk_at "zz"
  refine s_ifd (fun c => ?_) (fun c => ?_)
  · walk_at "zz"
    intro l1 h1
    have S21 := same_new (o := .lst (([16 + m] : List Int).map V.int)) h1
    walk_at "zz"
    intro l2 h2
    walk_at "zz"
    have S22 := same_new (o := .lst (([0, 0] : List Int).map V.int)) h2
    refine rep [0, 0] upd_same (by omega) (by omega) (by decide) fun l3 H3 z3 S3 n3 h3 zl3 => ?_
    have S13 := S22.trans S3
    refine add [16 + m] z3 (S13 _ _ upd_same) h3 (by show 1 + _ ≤ _; omega) fun l4 H4 S4 n4 h4 => ?_
    walk_at "zz"
    intro l5 h5
    walk_at "zz"
    have S45 := same_new (o := .lst (([19] : List Int).map V.int)) h5
    refine rep [19] upd_same (by omega) (by omega) (by decide) fun l6 H6 z6 S6 n6 h6 zl6 => ?_
    have S26 := S21.trans ((S13.trans S4).trans (S45.trans S6))
    refine add ([16 + m] ++ z3) z6 (S6 _ _ (S45 _ _ h4)) h6 (by rw [List.length_append]; show 1 + _ + _ ≤ _; omega) fun l7 H7 S7 n7 h7 => ?_
    exact fin (S2.same S26) (B02.trans (But.of S26)) S7 n7 h7 (by rw [List.length_append, List.length_append]; show 1 + _ + _ ≤ _; omega)
  walk_at "zz"
  refine s_ifd (fun c => ?_) (fun c => ?_)
  · walk_at "zz"
    intro l1 h1
    exact fin (ys := [2, 0, 0, 4 + m, 4 + m, 19, 19]) S2 B02 (same_new h1) h1 upd_same (by simp)
  walk_at "zz"
  refine s_ifd (fun c => ?_) (fun c => ?_)
  · walk_at "zz"
    intro l1 h1
    exact fin (ys := [1, 0, 12 + m, 19]) S2 B02 (same_new h1) h1 upd_same (by simp)
  walk_at "zz"
  refine s_ifd (fun c => ?_) (fun c => ?_)
  · walk_at "zz"
    intro l1 h1
    walk_at "zz"
    refine cl_Ltake ⟨p, 2, rfl, rfl, by omega, by omega, S2.new h1, fun u H3 u0 u1 S3 B3 => ?_⟩
    refine s_ixI [12 + m, 1 - m] (SqL.of (B3.rd (S2.ne h1) upd_same)) rfl u0 (by show u < 2; omega) fun w hw _ => ?_
    simp only [List.mem_cons, List.not_mem_nil, or_false] at hw
    have B03 := (B02.new h1).trans B3
    walk_at "zz"
    intro l4 h4
    walk_at "zz"
    intro l5 h5
    walk_at "zz"
    have S45 := same_new (o := .lst (([19] : List Int).map V.int)) h5
    have S34 := same_new (o := .lst (([1, 0, 0, 3, w] : List Int).map V.int)) h4
    refine rep [19] upd_same (by omega) (by omega) (by decide) fun l6 H6 z6 S6 n6 h6 zl6 => ?_
    have S26 := S34.trans (S45.trans S6)
    refine add [1, 0, 0, 3, w] z6 (S6 _ _ (S45 _ _ upd_same)) h6 (by show 5 + _ ≤ _; omega) fun l7 H7 S7 n7 h7 => ?_
    exact fin (S3.same S26) (B03.trans (But.of S26)) S7 n7 h7 (by rw [List.length_append]; show 5 + _ ≤ _; omega)
  walk_at "zz"
  refine s_ifd (fun c => ?_) (fun c => ?_)
  · walk_at "zz"
    intro l1 h1
    walk_at "zz"
    refine cl_Ltake ⟨p, 2, rfl, rfl, by omega, by omega, S2.new h1, fun u H3 u0 u1 S3 B3 => ?_⟩
    refine s_ixI [12 + m, 2 - m] (SqL.of (B3.rd (S2.ne h1) upd_same)) rfl u0 (by show u < 2; omega) fun w hw _ => ?_
    simp only [List.mem_cons, List.not_mem_nil, or_false] at hw
    have B03 := (B02.new h1).trans B3
    walk_at "zz"
    intro l4 h4
    walk_at "zz"
    intro l5 h5
    walk_at "zz"
    have S45 := same_new (o := .lst (([19] : List Int).map V.int)) h5
    have S34 := same_new (o := .lst (([1, 0, 0, 4, w] : List Int).map V.int)) h4
    refine rep [19] upd_same (by omega) (by omega) (by decide) fun l6 H6 z6 S6 n6 h6 zl6 => ?_
    have S26 := S34.trans (S45.trans S6)
    refine add [1, 0, 0, 4, w] z6 (S6 _ _ (S45 _ _ upd_same)) h6 (by show 5 + _ ≤ _; omega) fun l7 H7 S7 n7 h7 => ?_
    exact fin (S3.same S26) (B03.trans (But.of S26)) S7 n7 h7 (by rw [List.length_append]; show 5 + _ ≤ _; omega)
  walk_at "zz"
  refine s_ifd (fun c => ?_) (fun c => ?_)
  · walk_at "zz"
    intro l1 h1
    walk_at "zz"
    refine cl_Ltake ⟨p, 2, rfl, rfl, by omega, by omega, S2.new h1, fun u H3 u0 u1 S3 B3 => ?_⟩
    refine s_ixI [19 + m, 0 - m] (SqL.of (B3.rd (S2.ne h1) upd_same)) rfl u0 (by show u < 2; omega) fun w hw _ => ?_
    have B03 := (B02.new h1).trans B3
    walk_at "zz"
    intro l4 h4
    walk_at "zz"
    refine cl_Ltake ⟨p, 2, rfl, rfl, by omega, by omega, S3.new h4, fun u5 H5 u50 u51 S5 B5 => ?_⟩
    have h45 := B5.rd (S3.ne h4) (upd_same (H := H3) (a := l4) (o := .lst (([1, 0, 0, w, 0] : List Int).map V.int)))
    walk_at "zz"
    intro l6 h6
    rw [show (4 : Int) + u5 = ((4 + u5.toNat : Nat) : Int) by omega]
    exact fin (ys := [1, 0, 0, w, 0].take (4 + u5.toNat)) S5 ((B03.new h4).trans B5) (same_new h6) h6 (by rw [upd_same]; exact congrArg (fun z => some (HO.lst z)) (cut_takeI [1, 0, 0, w, 0] _)) (by rw [List.length_take]; show min _ 5 ≤ _; omega)
  walk_at "zz"
  refine s_ifd (fun c => ?_) (fun c => ?_)
  · walk_at "zz"
    refine cl_Ltake ⟨p, 12, rfl, rfl, by omega, by omega, S2, fun b H3 b0 b1 S3 B3 => ?_⟩
    walk_at "zz"
    intro l4 h4
    walk_at "zz"
    refine cl_Ltake ⟨p, 2, rfl, rfl, by omega, by omega, S3.new h4, fun u H5 u0 u1 S5 B5 => ?_⟩
    refine s_ixI [1, 2] (SqL.of (B5.rd (S3.ne h4) upd_same)) rfl u0 (by show u < 2; omega) fun w hw _ => ?_
    have B05 := ((B02.trans B3).new h4).trans B5
    walk_at "zz"
    intro l6 h6
    walk_at "zz"
    refine cl_Ltake ⟨p, 2, rfl, rfl, by omega, by omega, S5.new h6, fun u7 H7 u70 u71 S7 B7 => ?_⟩
    have h67 := B7.rd (S5.ne h6) (upd_same (H := H5) (a := l6) (o := .lst (([1, 0, 1 + b, w, 1 + b - 1 + m, 19] : List Int).map V.int)))
    walk_at "zz"
    intro l8 h8
    rw [show (5 : Int) + u7 = ((5 + u7.toNat : Nat) : Int) by omega]
    exact fin (ys := [1, 0, 1 + b, w, 1 + b - 1 + m, 19].take (5 + u7.toNat)) S7 ((B05.new h6).trans B7) (same_new h8) h8 (by rw [upd_same]; exact congrArg (fun z => some (HO.lst z)) (cut_takeI [1, 0, 1 + b, w, 1 + b - 1 + m, 19] _)) (by rw [List.length_take]; show min _ 6 ≤ _; omega)
  walk_at "zz"
  refine cl_Ltake ⟨p, 16, rfl, rfl, by omega, by omega, S2, fun b H3 b0 b1 S3 B3 => ?_⟩
  have B03 := B02.trans B3
  walk_at "zz"
  intro l1 h1
  have S31 := same_new (o := .lst (([1 + b] : List Int).map V.int)) h1
  walk_at "zz"
  intro l2 h2
  walk_at "zz"
  have S22 := same_new (o := .lst (([0, 0] : List Int).map V.int)) h2
  refine rep [0, 0] upd_same (by omega) (by omega) (by decide) fun l3 H4 z3 S4 n3 h3 zl3 => ?_
  have S13 := S22.trans S4
  refine add [1 + b] z3 (S13 _ _ upd_same) h3 (by show 1 + _ ≤ _; omega) fun l4 H5 S5 n4 h4 => ?_
  walk_at "zz"
  intro l5 h5
  have S55 := same_new (o := .lst (([6, 1 + b - 1 + m] : List Int).map V.int)) h5
  refine add ([1 + b] ++ z3) [6, 1 + b - 1 + m] (S55 _ _ h4) upd_same (by rw [List.length_append]; show 1 + _ + 2 ≤ _; omega) fun l6 H6 S6 n6 h6 => ?_
  walk_at "zz"
  intro l7 h7
  have S67 := same_new (o := .lst (([19] : List Int).map V.int)) h7
  walk_at "zz"
  refine rep [19] upd_same (by omega) (by omega) (by decide) fun l8 H8 z8 S8 n8 h8 zl8 => ?_
  have S38 := (((S31.trans S13).trans S5).trans (S55.trans S6)).trans (S67.trans S8)
  refine add ([1 + b] ++ z3 ++ [6, 1 + b - 1 + m]) z8 (S8 _ _ (S67 _ _ h6)) h8 (by rw [List.length_append, List.length_append]; show 1 + _ + 2 + _ ≤ _; omega) fun l9 H9 S9 n9 h9 => ?_
  exact fin (S3.same S38) (B03.trans (But.of S38)) S9 n9 h9 (by rw [List.length_append, List.length_append, List.length_append]; show 1 + _ + 2 + _ ≤ _; omega)

theorem rd_law {Z : Adr} (T : Top Z) {a0 : V} {H : Hp} {Q : VK} {E : XK} (h : q_law Z a0 H Q E) : t_law Z (fun cls d _ H => E cls d H) ⟨fun _ H' => Q .non H', Q, fun _ _ => False, fun _ _ => False⟩ [some a0, none, none, none, none, none, none, none] H := by
  unfold t_law
  obtain ⟨a, ns, rfl, hO, hS, hns, q⟩ := h
  have big : 16000000 ≤ sizeLine := by decide
  have nf : ∀ xs : List Int, SeqAt.shaped (.list (xs.map PyData.int)) = true := fun xs => (Sh.list (n := 0) (sh_ints xs)).shaped (by decide)
  walk_at "zz"
  intro p hp
  have hSt : St3 Z.K (upd H p (.lst [.ref a, .int 0, .int 0])) p := ⟨a, ns, 0, 0, hS.same (same_new hp), by omega, by omega, upd_same⟩
  walk_at "zz"
  refine cl_Lsheet ⟨p, 12, rfl, rfl, by omega, by omega, hSt, fun l xs hs bs H1 hl0 hl e hlen S1 B1 => ?_⟩
  have nlp := hSt.ne hl0
  walk_at "zz"
  refine loop_range (fun i σ' H' => St3 Z.K H' p ∧ H' l = some (.lst (xs.map V.int)) ∧ ∃ x3 x4 x5 x6 x7, σ' = [some (.ref a), some (.ref p), some (.ref l), x3, x4, x5, x6, x7]) ⟨S1, hl, none, none, none, none, none, rfl⟩ ?_ ?_
  · rintro i σ' H2 hi ⟨S2, hl2, x3, x4, x5, x6, x7, rfl⟩
    walk_at "zz"
    refine cl_Lbent ⟨p, l, xs, rfl, rfl, S2, hl2, hlen, fun m ys H3 S3 B3 hm0 hm hyl => ?_⟩
    have hl3 := B3.rd nlp hl2
    walk_at "zz"
    refine s_cut (fun σ' H' => St3 Z.K H' p ∧ But p H3 H' ∧ ∃ (m : Addr) (ys : List Int), m ≠ p ∧ H' m = some (.lst (ys.map V.int)) ∧ ys.length ≤ 200000 ∧ ∃ x5 x6 x7, σ' = [some (.ref a), some (.ref p), some (.ref l), some (.int (0 + (i : Int))), some (.ref m), x5, x6, x7]) ?_ ?_
    · walk_at "zz"
      refine s_ifd (fun c => ?_) (fun c => ?_)
      · walk_at "zz"
        refine cl_Ltake ⟨p, 3, rfl, rfl, by omega, by omega, S3, fun v H4 v0 v1 S4 B4 => ?_⟩
        have hm4 := B4.rd (S2.ne hm0) hm
        walk_at "zz"
        intro m5 hm5
        walk_at "zz"
        rw [show v = ((v.toNat : Nat) : Int) by omega, cut_takeI]
        exact ⟨S4.new hm5, B4.new hm5, m5, ys.take v.toNat, S4.ne hm5, upd_same, by rw [List.length_take]; omega, _, _, _, rfl⟩
      · walk_at "zz"
        exact ⟨S3, But.refl _ _, m, ys, S2.ne hm0, hm, by omega, _, _, _, rfl⟩
    clear hm0 hm hyl
    rintro σ' H4 ⟨S4, B4, m, ys, nm, hm, hyl, x5', x6', x7', rfl⟩
    have hl4 := B4.rd nlp hl3
    refine s_cut (fun σ' H' => St3 Z.K H' p ∧ But p H4 H' ∧ ∃ (m : Addr) (ys : List Int), m ≠ p ∧ H' m = some (.lst (ys.map V.int)) ∧ ys.length ≤ 200000 ∧ ∃ x5 x6 x7, σ' = [some (.ref a), some (.ref p), some (.ref l), some (.int (0 + (i : Int))), some (.ref m), x5, x6, x7]) ?_ ?_
    · walk_at "zz"
      refine s_ifd (fun c => ?_) (fun c => ?_)
      · walk_at "zz"
        refine cl_Ledge ⟨p, rfl, S4, fun m5 zs H5 S5 B5 n5 h5 zl => ?_⟩
        walk_at "zz"
        exact ⟨S5, B5, m5, zs, S4.ne n5, h5, by omega, _, _, _, rfl⟩
      · walk_at "zz"
        exact ⟨S4, But.refl _ _, m, ys, nm, hm, hyl, _, _, _, rfl⟩
    clear nm hm hyl m ys
    rintro σ' H5 ⟨S5, B5, m, ys, nm, hm, hyl, x5'', x6'', x7'', rfl⟩
    have hl5 := B5.rd nlp hl4
    have good : ∀ {H9 : Hp} {x3 x4 x5 x6 x7 : Option V}, Same H5 H9 → St3 Z.K H9 p ∧ H9 l = some (.lst (xs.map V.int)) ∧ ∃ y3 y4 y5 y6 y7, [some (.ref a), some (.ref p), some (.ref l), x3, x4, x5, x6, x7] = [some (.ref a), some (.ref p), some (.ref l), y3, y4, y5, y6, y7] := fun S9 => ⟨S5.same S9, S9 _ _ hl5, _, _, _, _, _, rfl⟩
    walk_at "zz"
    cases ef : funsP ys with
    | ok r =>
      refine cl_Lwrong ⟨m, ys, rfl, hm, by omega, fun r er H6 S6 => ?_, fun er ee => by rw [ef] at ee; cases ee⟩
      walk_at "zz"
      intro lh hlh
      have S7 := S6.trans (same_new (o := .lst (ys.map V.int)) hlh)
      have hm7 := S7 _ _ hm
      walk_at "zz"
      refine cl_wrong ⟨lh, ys, rfl, SqL.of upd_same, fun r er H8 S8 => ?_, fun er ee => by rw [ef] at ee; cases ee⟩
      have hlh8 := S8 _ _ (upd_same (H := H6) (a := lh) (o := .lst (ys.map V.int)))
      have S58 := S7.trans S8
      walk_at "zz"
      refine s_ne_v rfl ?_
      walk_at "zz"
      refine s_nft rfl ?_
      walk_at "zz"
      refine s_cut (fun σ' H' => Same H8 H' ∧ ∃ t, H' t = some (.tup [(hv ys).1, (hv ys).2]) ∧ ∃ x7, σ' = [some (.ref a), some (.ref p), some (.ref l), some (.int (0 + (i : Int))), some (.ref m), some (.ref t), some (.ref lh), x7]) ?_ ?_
      · walk_at "zz"
        intro t9 ht9
        exact ⟨same_new ht9, t9, by rw [upd_same]; unfold hv; rw [ef], _, rfl⟩
      · rintro σ' H9 ⟨S9, t9, ht9, x7c, rfl⟩
        have hlh9 := S9 _ _ hlh8
        walk_at "zz"
        refine cl_Lheard ⟨0, lh, ys, rfl, rfl, SqL.of hlh9, by omega, fun l10 H10 S10 h10 => ?_⟩
        walk_at "zz"
        refine s_ixTN (m := 0) (SqT.of (S10 _ _ ht9)) (v := (hv ys).1) rfl ?_
        walk_at "zz"
        refine s_ixTN (m := 1) (SqT.of (S10 _ _ ht9)) (v := (hv ys).2) rfl ?_
        walk_at "zz"
        intro l11 hl11
        refine s_ne_d (.lst (SqL.of (up_new hl11 h10)) (.cons (.bl _) (.cons hv_dp.1 (.cons hv_dp.2 .nil)))) (.lst (SqL.of upd_same) (.cons (.bl _) (.cons hv_dp.1 (.cons hv_dp.2 .nil)))) (hv_sh.shaped (by decide)) (hv_sh.shaped (by decide)) ?_
        rw [hv_sh.refl]
        walk_at "zz"
        have S911 := S10.trans (same_new (o := .lst [.bl true, (hv ys).1, (hv ys).2]) hl11)
        refine cl_Lheard ⟨1, lh, ys, rfl, rfl, SqL.of (S911 _ _ hlh9), by omega, fun l12 H12 S12 h12 => ?_⟩
        have S912 := S911.trans S12
        walk_at "zz"
        refine s_ixTN (m := 0) (SqT.of (S912 _ _ ht9)) (v := (hv ys).1) rfl ?_
        walk_at "zz"
        refine s_ixTN (m := 1) (SqT.of (S912 _ _ ht9)) (v := (hv ys).2) rfl ?_
        walk_at "zz"
        intro l13 hl13
        refine s_ne_d (.lst (SqL.of (up_new hl13 h12)) (.cons (.bl _) (.cons hv_dp.1 (.cons hv_dp.2 .nil)))) (.lst (SqL.of upd_same) (.cons (.bl _) (.cons hv_dp.1 (.cons hv_dp.2 .nil)))) (hv_sh.shaped (by decide)) (hv_sh.shaped (by decide)) ?_
        rw [hv_sh.refl]
        have S913 := S912.trans (same_new (o := .lst [.bl true, (hv ys).1, (hv ys).2]) hl13)
        have hlhE := S913 _ _ hlh9
        have hmE := S913 _ _ (S9 _ _ (S58 _ _ hm))
        walk_at "zz"
        refine s_ne_d (.lst (SqL.of hlhE) (dp_ints _)) (.lst (SqL.of hmE) (dp_ints _)) (nf _) (nf _) ?_
        rw [(Sh.list (n := 0) (sh_ints _)).refl]
        walk_at "zz"
        exact good (S58.trans (S9.trans S913))
    | error er =>
      obtain ⟨ek, ew⟩ := er
      have bd := (funs_bounds ef).2.2.1
      refine cl_Lwrong ⟨m, ys, rfl, hm, by omega, fun r er => (by rw [ef] at er; cases er), fun er ee t6 H6 S6 ht6 => ?_⟩
      cases ef.symm.trans ee
      walk_at "zz"
      intro lh hlh
      have S7 := S6.trans (same_new (o := .lst (ys.map V.int)) hlh)
      have S67 := same_new (o := .lst (ys.map V.int)) hlh
      have hm7 := S7 _ _ hm
      walk_at "zz"
      refine cl_wrong ⟨lh, ys, rfl, SqL.of upd_same, fun r er => (by rw [ef] at er; cases er), fun er ee t8 H8 S8 ht8 => ?_⟩
      cases ef.symm.trans ee
      have hlh8 := S8 _ _ (upd_same (H := H6) (a := lh) (o := .lst (ys.map V.int)))
      have S58 := S7.trans S8
      have S68 := S67.trans S8
      walk_at "zz"
      refine s_ne_d (err_dp ht8) (err_dp (S68 _ _ ht6)) ((err_sh bd).shaped (by decide)) ((err_sh bd).shaped (by decide)) ?_
      rw [(err_sh bd).refl]
      walk_at "zz"
      refine s_ixTN (m := 0) (SqT.of ht8) (v := .int ek) rfl ?_
      walk_at "zz"
      refine s_cut (fun σ' H' => Same H8 H' ∧ ∃ t, H' t = some (.tup [(hv ys).1, (hv ys).2]) ∧ ∃ x7, σ' = [some (.ref a), some (.ref p), some (.ref l), some (.int (0 + (i : Int))), some (.ref m), some (.ref t), some (.ref lh), x7]) ?_ ?_
      · walk_at "zz"
        exact ⟨Same.refl _, t6, by unfold hv; rw [ef]; exact S68 _ _ ht6, _, rfl⟩
      · rintro σ' H9 ⟨S9, t9, ht9, x7c, rfl⟩
        have hlh9 := S9 _ _ hlh8
        walk_at "zz"
        refine cl_Lheard ⟨0, lh, ys, rfl, rfl, SqL.of hlh9, by omega, fun l10 H10 S10 h10 => ?_⟩
        walk_at "zz"
        refine s_ixTN (m := 0) (SqT.of (S10 _ _ ht9)) (v := (hv ys).1) rfl ?_
        walk_at "zz"
        refine s_ixTN (m := 1) (SqT.of (S10 _ _ ht9)) (v := (hv ys).2) rfl ?_
        walk_at "zz"
        intro l11 hl11
        refine s_ne_d (.lst (SqL.of (up_new hl11 h10)) (.cons (.bl _) (.cons hv_dp.1 (.cons hv_dp.2 .nil)))) (.lst (SqL.of upd_same) (.cons (.bl _) (.cons hv_dp.1 (.cons hv_dp.2 .nil)))) (hv_sh.shaped (by decide)) (hv_sh.shaped (by decide)) ?_
        rw [hv_sh.refl]
        walk_at "zz"
        have S911 := S10.trans (same_new (o := .lst [.bl true, (hv ys).1, (hv ys).2]) hl11)
        refine cl_Lheard ⟨1, lh, ys, rfl, rfl, SqL.of (S911 _ _ hlh9), by omega, fun l12 H12 S12 h12 => ?_⟩
        have S912 := S911.trans S12
        walk_at "zz"
        refine s_ixTN (m := 0) (SqT.of (S912 _ _ ht9)) (v := (hv ys).1) rfl ?_
        walk_at "zz"
        refine s_ixTN (m := 1) (SqT.of (S912 _ _ ht9)) (v := (hv ys).2) rfl ?_
        walk_at "zz"
        intro l13 hl13
        refine s_ne_d (.lst (SqL.of (up_new hl13 h12)) (.cons (.bl _) (.cons hv_dp.1 (.cons hv_dp.2 .nil)))) (.lst (SqL.of upd_same) (.cons (.bl _) (.cons hv_dp.1 (.cons hv_dp.2 .nil)))) (hv_sh.shaped (by decide)) (hv_sh.shaped (by decide)) ?_
        rw [hv_sh.refl]
        have S913 := S912.trans (same_new (o := .lst [.bl true, (hv ys).1, (hv ys).2]) hl13)
        have hlhE := S913 _ _ hlh9
        have hmE := S913 _ _ (S9 _ _ (S58 _ _ hm))
        walk_at "zz"
        refine s_ne_d (.lst (SqL.of hlhE) (dp_ints _)) (.lst (SqL.of hmE) (dp_ints _)) (nf _) (nf _) ?_
        rw [(Sh.list (n := 0) (sh_ints _)).refl]
        walk_at "zz"
        exact good (S58.trans (S9.trans S913))
  · rintro σ' H2 ⟨S2, hl2, x3, x4, x5, x6, x7, rfl⟩
    walk_at "zz"
    refine cl_wrong ⟨l, xs, rfl, SqL.of hl2, fun r _ H3 S3 => ?_, fun er ee => by rw [e] at ee; cases ee⟩
    walk_at "zz"
    exact q _

theorem sc_NoSheet_init : FnScope nm_NoSheet_init ["self", "place", "word"] (defScope st_NoSheet_init) := ⟨rfl, rfl, rfl, by decide +kernel, rfl, by decide +kernel, by decide +kernel⟩
theorem ok_NoSheet_init {P : Program} {w : World} {base : Heap} {Z : Adr} (T : Top Z)  : FnOk P w Z.K Z.mg base (L2.CX P w) 1 Z.f_NoSheet_init Z.d_NoSheet_init ["self", "place", "word"] (sp_NoSheet_init Z) := by
  refine FnOk.mono (T.F_NoSheet_init.okX (k := 0) sc_NoSheet_init (fun vs H Q E h => ?_) (fun cdv A outer s H vs Q E hr h => ?_)) (by decide)
  · obtain ⟨a0, a1, a2, rfl, _⟩ := h; rfl
  · obtain ⟨a0, a1, a2, rfl, h⟩ := h
    have tk : Takes (cxOf (L2.CX P w) P w Z.K Z.mg base nm_NoSheet_init "NoSheet.__init__" (defScope st_NoSheet_init) Z.f_NoSheet_init cdv A outer s H E) (fun cls d _ H => E cls d H) := takes_of rfl rfl rfl rfl
    have po : PassesOwn (model P w) (cxOf (L2.CX P w) P w Z.K Z.mg base nm_NoSheet_init "NoSheet.__init__" (defScope st_NoSheet_init) Z.f_NoSheet_init cdv A outer s H E).A (cxOf (L2.CX P w) P w Z.K Z.mg base nm_NoSheet_init "NoSheet.__init__" (defScope st_NoSheet_init) Z.f_NoSheet_init cdv A outer s H E).env (cxOf (L2.CX P w) P w Z.K Z.mg base nm_NoSheet_init "NoSheet.__init__" (defScope st_NoSheet_init) Z.f_NoSheet_init cdv A outer s H E).xe := passes_of rfl
    refine ⟨t_NoSheet_init Z (fun cls d _ H => E cls d H), ?_, rd_NoSheet_init T h⟩
    exact (pss_cons (ps_expr (pe_cinit rfl T.g_ChainError T.ri_ChainError T.rs_ChainError T.rv_ChainError (pa_cons (pv 0) (pa_cons pe_str pa_nil))))
      (pss_cons (ps_ost (pv 0) (pv 1) rfl)
      (pss_one (ps_ost (pv 0) (pv 2) rfl))))

theorem sc_parts_of : FnScope nm_parts_of ["kind"] (defScope st_parts_of) := ⟨rfl, rfl, rfl, by decide +kernel, rfl, by decide +kernel, by decide +kernel⟩
theorem ok_parts_of {P : Program} {w : World} {base : Heap} {Z : Adr} (T : Top Z)  : FnOk P w Z.K Z.mg base (L2.CX P w) 1 Z.f_parts_of Z.d_parts_of ["kind"] (sp_parts_of Z) := by
  refine FnOk.mono (T.F_parts_of.okX (k := 0) sc_parts_of (fun vs H Q E h => ?_) (fun cdv A outer s H vs Q E hr h => ?_)) (by decide)
  · obtain ⟨a0, rfl, _⟩ := h; rfl
  · obtain ⟨a0, rfl, h⟩ := h
    have tk : Takes (cxOf (L2.CX P w) P w Z.K Z.mg base nm_parts_of "parts_of" (defScope st_parts_of) Z.f_parts_of cdv A outer s H E) (fun cls d _ H => E cls d H) := takes_of rfl rfl rfl rfl
    have po : PassesOwn (model P w) (cxOf (L2.CX P w) P w Z.K Z.mg base nm_parts_of "parts_of" (defScope st_parts_of) Z.f_parts_of cdv A outer s H E).A (cxOf (L2.CX P w) P w Z.K Z.mg base nm_parts_of "parts_of" (defScope st_parts_of) Z.f_parts_of cdv A outer s H E).env (cxOf (L2.CX P w) P w Z.K Z.mg base nm_parts_of "parts_of" (defScope st_parts_of) Z.f_parts_of cdv A outer s H E).xe := passes_of rfl
    refine ⟨t_parts_of Z (fun cls d _ H => E cls d H), ?_, rd_parts_of T h⟩
    exact (pss_cons (ps_if (pt_cmpR (op_eqU (hr.units)) (pv 0) (pe_glob rfl T.g_NEW ⟨_, rfl⟩) (nomark _)) (pss_one (ps_ret pe_int)) pss_nil)
      (pss_cons (ps_if (pt_cmpR op_in_seq (pv 0) (pe_tup (pa_cons (pe_glob rfl T.g_FAIL ⟨_, rfl⟩) (pa_cons (pe_glob rfl T.g_SIZE ⟨_, rfl⟩) pa_nil))) (by rfl)) (pss_one (ps_ret pe_int)) pss_nil)
      (pss_cons (ps_if (pt_cmpR (op_eqU (hr.units)) (pv 0) (pe_glob rfl T.g_PUT ⟨_, rfl⟩) (nomark _)) (pss_one (ps_ret pe_int)) pss_nil)
      (pss_one (ps_ret pe_int)))))

theorem sc_Look_init : FnScope nm_Look_init ["self", "numbers"] (defScope st_Look_init) := ⟨rfl, rfl, rfl, by decide +kernel, rfl, by decide +kernel, by decide +kernel⟩
theorem ok_Look_init {P : Program} {w : World} {base : Heap} {Z : Adr} (T : Top Z)  : FnOk P w Z.K Z.mg base (L2.CX P w) 1 Z.f_Look_init Z.d_Look_init ["self", "numbers"] (sp_Look_init Z) := by
  refine FnOk.mono (T.F_Look_init.okX (k := 0) sc_Look_init (fun vs H Q E h => ?_) (fun cdv A outer s H vs Q E hr h => ?_)) (by decide)
  · obtain ⟨a0, a1, rfl, _⟩ := h; rfl
  · obtain ⟨a0, a1, rfl, h⟩ := h
    have tk : Takes (cxOf (L2.CX P w) P w Z.K Z.mg base nm_Look_init "Look.__init__" (defScope st_Look_init) Z.f_Look_init cdv A outer s H E) (fun cls d _ H => E cls d H) := takes_of rfl rfl rfl rfl
    have po : PassesOwn (model P w) (cxOf (L2.CX P w) P w Z.K Z.mg base nm_Look_init "Look.__init__" (defScope st_Look_init) Z.f_Look_init cdv A outer s H E).A (cxOf (L2.CX P w) P w Z.K Z.mg base nm_Look_init "Look.__init__" (defScope st_Look_init) Z.f_Look_init cdv A outer s H E).env (cxOf (L2.CX P w) P w Z.K Z.mg base nm_Look_init "Look.__init__" (defScope st_Look_init) Z.f_Look_init cdv A outer s H E).xe := passes_of rfl
    refine ⟨t_Look_init Z (fun cls d _ H => E cls d H), ?_, rd_Look_init T h⟩
    exact (pss_cons (ps_fld (pv 0) (pe_callTy call_list' (by rfl) T.n_list (by decide +kernel) (pa_cons (pv 1) pa_nil)) rfl)
      (pss_one (ps_fld (pv 0) pe_int rfl)))

theorem sc_Look_due : FnScope nm_Look_due ["self"] (defScope st_Look_due) := ⟨rfl, rfl, rfl, by decide +kernel, rfl, by decide +kernel, by decide +kernel⟩
theorem ok_Look_due {P : Program} {w : World} {base : Heap} {Z : Adr} (T : Top Z) (G_NoSheet_init : FnOk P w Z.K Z.mg base (L2.CX P w) 1 Z.f_NoSheet_init Z.d_NoSheet_init ["self", "place", "word"] (sp_NoSheet_init Z)) : FnOk P w Z.K Z.mg base (L2.CX P w) 3 Z.f_Look_due Z.d_Look_due ["self"] (sp_Look_due Z) := by
  refine FnOk.mono (T.F_Look_due.okX (k := 2) sc_Look_due (fun vs H Q E h => ?_) (fun cdv A outer s H vs Q E hr h => ?_)) (by decide)
  · obtain ⟨a0, rfl, _⟩ := h; rfl
  · obtain ⟨a0, rfl, h⟩ := h
    have tk : Takes (cxOf (L2.CX P w) P w Z.K Z.mg base nm_Look_due "Look.due" (defScope st_Look_due) Z.f_Look_due cdv A outer s H E) (fun cls d _ H => E cls d H) := takes_of rfl rfl rfl rfl
    have po : PassesOwn (model P w) (cxOf (L2.CX P w) P w Z.K Z.mg base nm_Look_due "Look.due" (defScope st_Look_due) Z.f_Look_due cdv A outer s H E).A (cxOf (L2.CX P w) P w Z.K Z.mg base nm_Look_due "Look.due" (defScope st_Look_due) Z.f_Look_due cdv A outer s H E).env (cxOf (L2.CX P w) P w Z.K Z.mg base nm_Look_due "Look.due" (defScope st_Look_due) Z.f_Look_due cdv A outer s H E).xe := passes_of rfl
    refine ⟨t_Look_due Z (fun cls d _ H => E cls d H), ?_, rd_Look_due T h⟩
    exact (pss_cons (ps_if (pt_cmpR (op_eqU (hr.units)) (pe_fld (pv 0) rfl) (pe_callB call_len' (by rfl) T.n_len (by decide +kernel) (pa_cons (pe_fld (pv 0) rfl) pa_nil)) (nomark _)) (pss_one (ps_raiseO rfl tk T.ox_NoSheet T.oi_NoSheet T.ot_NoSheet G_NoSheet_init (hr.mono (by decide)) T.b_NoSheet_init passF rfl T.g_NoSheet (pa_cons (pe_fld (pv 0) rfl) (pa_cons pe_str pa_nil)))) pss_nil)
      (pss_cons (ps_fld (pv 0) (pe_op op_addU (pe_fld (pv 0) rfl) pe_int) rfl)
      (pss_one (ps_ret (pe_ix ix_seq (pe_fld (pv 0) rfl) (pe_op op_sub (pe_fld (pv 0) rfl) pe_int) (fun _ _ => rfl))))))

theorem sc_Look_within : FnScope nm_Look_within ["self", "low", "high"] (defScope st_Look_within) := ⟨rfl, rfl, rfl, by decide +kernel, rfl, by decide +kernel, by decide +kernel⟩
theorem ok_Look_within {P : Program} {w : World} {base : Heap} {Z : Adr} (T : Top Z) (G_Look_due : FnOk P w Z.K Z.mg base (L2.CX P w) 3 Z.f_Look_due Z.d_Look_due ["self"] (sp_Look_due Z)) (G_NoSheet_init : FnOk P w Z.K Z.mg base (L2.CX P w) 1 Z.f_NoSheet_init Z.d_NoSheet_init ["self", "place", "word"] (sp_NoSheet_init Z)) : FnOk P w Z.K Z.mg base (L2.CX P w) 4 Z.f_Look_within Z.d_Look_within ["self", "low", "high"] (sp_Look_within Z) := by
  refine FnOk.mono (T.F_Look_within.okX (k := 3) sc_Look_within (fun vs H Q E h => ?_) (fun cdv A outer s H vs Q E hr h => ?_)) (by decide)
  · obtain ⟨a0, a1, a2, rfl, _⟩ := h; rfl
  · obtain ⟨a0, a1, a2, rfl, h⟩ := h
    have tk : Takes (cxOf (L2.CX P w) P w Z.K Z.mg base nm_Look_within "Look.within" (defScope st_Look_within) Z.f_Look_within cdv A outer s H E) (fun cls d _ H => E cls d H) := takes_of rfl rfl rfl rfl
    have po : PassesOwn (model P w) (cxOf (L2.CX P w) P w Z.K Z.mg base nm_Look_within "Look.within" (defScope st_Look_within) Z.f_Look_within cdv A outer s H E).A (cxOf (L2.CX P w) P w Z.K Z.mg base nm_Look_within "Look.within" (defScope st_Look_within) Z.f_Look_within cdv A outer s H E).env (cxOf (L2.CX P w) P w Z.K Z.mg base nm_Look_within "Look.within" (defScope st_Look_within) Z.f_Look_within cdv A outer s H E).xe := passes_of rfl
    refine ⟨t_Look_within Z (fun cls d _ H => E cls d H), ?_, rd_Look_within T h⟩
    exact (pss_cons (ps_set (i := 3) sc_Look_within.nd rfl (Or.inl rfl) (pe_meth0Z (pv 0) T.cl_Look T.mt_Look_due G_Look_due (hr.mono (by decide)) T.b_Look_due (fun σ => passAt tk σ)))
      (pss_cons (ps_if (pt_not (pt_chain op_le op_le (pv 1) (pv 3) (pv 2))) (pss_one (ps_raiseO rfl tk T.ox_NoSheet T.oi_NoSheet T.ot_NoSheet G_NoSheet_init (hr.mono (by decide)) T.b_NoSheet_init passF rfl T.g_NoSheet (pa_cons (pe_op op_sub (pe_fld (pv 0) rfl) pe_int) (pa_cons pe_str pa_nil)))) pss_nil)
      (pss_one (ps_ret (pv 3)))))

theorem sc_heads_in : FnScope nm_heads_in ["look"] (defScope st_heads_in) := ⟨rfl, rfl, rfl, by decide +kernel, rfl, by decide +kernel, by decide +kernel⟩
theorem ok_heads_in {P : Program} {w : World} {base : Heap} {Z : Adr} (T : Top Z) (G_Look_within : FnOk P w Z.K Z.mg base (L2.CX P w) 4 Z.f_Look_within Z.d_Look_within ["self", "low", "high"] (sp_Look_within Z)) : FnOk P w Z.K Z.mg base (L2.CX P w) 5 Z.f_heads_in Z.d_heads_in ["look"] (sp_heads_in Z) := by
  refine FnOk.mono (T.F_heads_in.okX (k := 4) sc_heads_in (fun vs H Q E h => ?_) (fun cdv A outer s H vs Q E hr h => ?_)) (by decide)
  · obtain ⟨a0, rfl, _⟩ := h; rfl
  · obtain ⟨a0, rfl, h⟩ := h
    have tk : Takes (cxOf (L2.CX P w) P w Z.K Z.mg base nm_heads_in "heads_in" (defScope st_heads_in) Z.f_heads_in cdv A outer s H E) (fun cls d _ H => E cls d H) := takes_of rfl rfl rfl rfl
    have po : PassesOwn (model P w) (cxOf (L2.CX P w) P w Z.K Z.mg base nm_heads_in "heads_in" (defScope st_heads_in) Z.f_heads_in cdv A outer s H E).A (cxOf (L2.CX P w) P w Z.K Z.mg base nm_heads_in "heads_in" (defScope st_heads_in) Z.f_heads_in cdv A outer s H E).env (cxOf (L2.CX P w) P w Z.K Z.mg base nm_heads_in "heads_in" (defScope st_heads_in) Z.f_heads_in cdv A outer s H E).xe := passes_of rfl
    refine ⟨t_heads_in Z (fun cls d _ H => E cls d H), ?_, rd_heads_in T h⟩
    exact (pss_cons (ps_set (i := 1) sc_heads_in.nd rfl (Or.inl rfl) (pe_lst pa_nil))
      (pss_cons (ps_for po rfl (pi_range1 rfl T.n_range (pa_cons (pe_methZ (pv 0) T.cl_Look T.mt_Look_within G_Look_within (hr.mono (by decide)) T.b_Look_within (fun σ => passAt tk σ) (pa_cons pe_int (pa_cons (pe_glob rfl T.g_MOST_FUNCTIONS ⟨_, rfl⟩) pa_nil))) pa_nil)) (pg_name (i := 2) sc_heads_in.nd rfl (Or.inl rfl)) (pss_cons (ps_set (i := 3) sc_heads_in.nd rfl (Or.inl rfl) (pe_methZ (pv 0) T.cl_Look T.mt_Look_within G_Look_within (hr.mono (by decide)) T.b_Look_within (fun σ => passAt tk σ) (pa_cons pe_int (pa_cons (pe_op op_ml (pe_glob rfl T.g_MOST_PARAMS ⟨_, rfl⟩) (pe_callTy call_int' (by rfl) T.n_int (by decide +kernel) (pa_cons (pe_cmpR op_gt (pv 2) pe_int (nomark _)) pa_nil))) pa_nil))))
      (pss_one (ps_expr (pe_bm PySem.F.plainAttrs_list PySem.F.slot_list_append PySem.F.type_list_append mt_append (pv 1) (pa_cons (pe_tup (pa_cons (pv 3) (pa_cons (pe_methZ (pv 0) T.cl_Look T.mt_Look_within G_Look_within (hr.mono (by decide)) T.b_Look_within (fun σ => passAt tk σ) (pa_cons (pv 3) (pa_cons (pe_glob rfl T.g_MOST_BOXES ⟨_, rfl⟩) pa_nil))) pa_nil))) pa_nil))))))
      (pss_one (ps_ret (pv 1)))))

theorem sc_own_numbers : FnScope nm_own_numbers ["look", "heads", "boxes", "kind"] (defScope st_own_numbers) := ⟨rfl, rfl, rfl, by decide +kernel, rfl, by decide +kernel, by decide +kernel⟩
theorem ok_own_numbers {P : Program} {w : World} {base : Heap} {Z : Adr} (T : Top Z) (G_Look_due : FnOk P w Z.K Z.mg base (L2.CX P w) 3 Z.f_Look_due Z.d_Look_due ["self"] (sp_Look_due Z)) (G_Look_within : FnOk P w Z.K Z.mg base (L2.CX P w) 4 Z.f_Look_within Z.d_Look_within ["self", "low", "high"] (sp_Look_within Z)) (G_parts_of : FnOk P w Z.K Z.mg base (L2.CX P w) 1 Z.f_parts_of Z.d_parts_of ["kind"] (sp_parts_of Z)) : FnOk P w Z.K Z.mg base (L2.CX P w) 5 Z.f_own_numbers Z.d_own_numbers ["look", "heads", "boxes", "kind"] (sp_own_numbers Z) := by
  refine FnOk.mono (T.F_own_numbers.okX (k := 4) sc_own_numbers (fun vs H Q E h => ?_) (fun cdv A outer s H vs Q E hr h => ?_)) (by decide)
  · obtain ⟨a0, a1, a2, a3, rfl, _⟩ := h; rfl
  · obtain ⟨a0, a1, a2, a3, rfl, h⟩ := h
    have tk : Takes (cxOf (L2.CX P w) P w Z.K Z.mg base nm_own_numbers "own_numbers" (defScope st_own_numbers) Z.f_own_numbers cdv A outer s H E) (fun cls d _ H => E cls d H) := takes_of rfl rfl rfl rfl
    have po : PassesOwn (model P w) (cxOf (L2.CX P w) P w Z.K Z.mg base nm_own_numbers "own_numbers" (defScope st_own_numbers) Z.f_own_numbers cdv A outer s H E).A (cxOf (L2.CX P w) P w Z.K Z.mg base nm_own_numbers "own_numbers" (defScope st_own_numbers) Z.f_own_numbers cdv A outer s H E).env (cxOf (L2.CX P w) P w Z.K Z.mg base nm_own_numbers "own_numbers" (defScope st_own_numbers) Z.f_own_numbers cdv A outer s H E).xe := passes_of rfl
    refine ⟨t_own_numbers Z (fun cls d _ H => E cls d H), ?_, rd_own_numbers T h⟩
    exact (pss_cons (ps_if (pt_cmpR (op_eqU (hr.units)) (pv 3) (pe_glob rfl T.g_NUMBER ⟨_, rfl⟩) (nomark _)) (pss_one (ps_ret (pe_tup (pa_cons (pe_tup (pa_cons (pe_meth0Z (pv 0) T.cl_Look T.mt_Look_due G_Look_due (hr.mono (by decide)) T.b_Look_due (fun σ => passAt tk σ)) pa_nil)) (pa_cons pe_int pa_nil))))) pss_nil)
      (pss_cons (ps_if (pt_cmpR (op_eqU (hr.units)) (pv 3) (pe_glob rfl T.g_GET ⟨_, rfl⟩) (nomark _)) (pss_one (ps_ret (pe_tup (pa_cons (pe_tup (pa_cons (pe_methZ (pv 0) T.cl_Look T.mt_Look_within G_Look_within (hr.mono (by decide)) T.b_Look_within (fun σ => passAt tk σ) (pa_cons pe_int (pa_cons (pe_op op_sub (pv 2) pe_int) pa_nil))) pa_nil)) (pa_cons pe_int pa_nil))))) pss_nil)
      (pss_cons (ps_if (pt_cmpR (op_eqU (hr.units)) (pv 3) (pe_glob rfl T.g_SET ⟨_, rfl⟩) (nomark _)) (pss_one (ps_ret (pe_tup (pa_cons (pe_tup (pa_cons (pe_methZ (pv 0) T.cl_Look T.mt_Look_within G_Look_within (hr.mono (by decide)) T.b_Look_within (fun σ => passAt tk σ) (pa_cons pe_int (pa_cons (pe_op op_sub (pv 2) pe_int) pa_nil))) pa_nil)) (pa_cons pe_int pa_nil))))) pss_nil)
      (pss_cons (ps_if (pt_cmpR (op_eqU (hr.units)) (pv 3) (pe_glob rfl T.g_ALL ⟨_, rfl⟩) (nomark _)) (pss_cons (ps_set (i := 4) sc_own_numbers.nd rfl (Or.inl rfl) (pe_methZ (pv 0) T.cl_Look T.mt_Look_within G_Look_within (hr.mono (by decide)) T.b_Look_within (fun σ => passAt tk σ) (pa_cons pe_int (pa_cons (pe_glob rfl T.g_MOST_PARTS ⟨_, rfl⟩) pa_nil))))
      (pss_one (ps_ret (pe_tup (pa_cons (pe_tup (pa_cons (pv 4) pa_nil)) (pa_cons (pv 4) pa_nil)))))) pss_nil)
      (pss_cons (ps_if (pt_cmpR (op_eqU (hr.units)) (pv 3) (pe_glob rfl T.g_PICK ⟨_, rfl⟩) (nomark _)) (pss_cons (ps_set (i := 4) sc_own_numbers.nd rfl (Or.inl rfl) (pe_methZ (pv 0) T.cl_Look T.mt_Look_within G_Look_within (hr.mono (by decide)) T.b_Look_within (fun σ => passAt tk σ) (pa_cons pe_int (pa_cons (pe_glob rfl T.g_MOST_PARTS ⟨_, rfl⟩) pa_nil))))
      (pss_one (ps_ret (pe_tup (pa_cons (pe_tup (pa_cons (pv 4) pa_nil)) (pa_cons (pe_op op_addU (pv 4) pe_int) pa_nil)))))) pss_nil)
      (pss_cons (ps_if (pt_cmpR (op_eqU (hr.units)) (pv 3) (pe_glob rfl T.g_CALL ⟨_, rfl⟩) (nomark _)) (pss_cons (ps_set (i := 5) sc_own_numbers.nd rfl (Or.inl rfl) (pe_methZ (pv 0) T.cl_Look T.mt_Look_within G_Look_within (hr.mono (by decide)) T.b_Look_within (fun σ => passAt tk σ) (pa_cons pe_int (pa_cons (pe_op op_sub (pe_callB call_len' (by rfl) T.n_len (by decide +kernel) (pa_cons (pv 1) pa_nil)) pe_int) pa_nil))))
      (pss_one (ps_ret (pe_tup (pa_cons (pe_tup (pa_cons (pv 5) pa_nil)) (pa_cons (pe_ix ix_seq (pe_ix ix_seq (pv 1) (pv 5) (fun _ _ => rfl)) pe_int (fun _ _ => rfl)) pa_nil)))))) pss_nil)
      (pss_cons (ps_if (pt_cmpR (op_eqU (hr.units)) (pv 3) (pe_glob rfl T.g_LOOP ⟨_, rfl⟩) (nomark _)) (pss_one (ps_ret (pe_tup (pa_cons (pe_tup pa_nil) (pa_cons pe_int pa_nil))))) pss_nil)
      (pss_one (ps_ret (pe_tup (pa_cons (pe_tup pa_nil) (pa_cons (pe_callS G_parts_of (hr.mono (by decide)) rfl T.m_parts_of T.k_parts_of T.b_parts_of (fun σ => passAt tk σ) (pa_cons (pv 3) pa_nil)) pa_nil))))))))))))

theorem sc_node_in : FnScope nm_node_in ["look", "heads", "boxes", "deep"] (defScope st_node_in) := ⟨rfl, rfl, rfl, by decide +kernel, rfl, by decide +kernel, by decide +kernel⟩
theorem ok_node_in {P : Program} {w : World} {base : Heap} {Z : Adr} (T : Top Z) (n : Nat) (G_NoSheet_init : FnOk P w Z.K Z.mg base (L2.CX P w) 1 Z.f_NoSheet_init Z.d_NoSheet_init ["self", "place", "word"] (sp_NoSheet_init Z)) (G_Look_within : FnOk P w Z.K Z.mg base (L2.CX P w) 4 Z.f_Look_within Z.d_Look_within ["self", "low", "high"] (sp_Look_within Z)) (G_own_numbers : FnOk P w Z.K Z.mg base (L2.CX P w) 5 Z.f_own_numbers Z.d_own_numbers ["look", "heads", "boxes", "kind"] (sp_own_numbers Z)) (G_node_in : FnOk P w Z.K Z.mg base (L2.CX P w) (5 + n) Z.f_node_in Z.d_node_in ["look", "heads", "boxes", "deep"] (sp_node_in Z n)) : FnOk P w Z.K Z.mg base (L2.CX P w) (5 + n + 1) Z.f_node_in Z.d_node_in ["look", "heads", "boxes", "deep"] (sp_node_in Z (n + 1)) := by
  refine T.F_node_in.okX (k := 5 + n) sc_node_in (fun vs H Q E h => ?_) (fun cdv A outer s H vs Q E hr h => ?_)
  · obtain ⟨a0, a1, a2, a3, rfl, _⟩ := h; rfl
  · obtain ⟨a0, a1, a2, a3, rfl, h⟩ := h
    have tk : Takes (cxOf (L2.CX P w) P w Z.K Z.mg base nm_node_in "node_in" (defScope st_node_in) Z.f_node_in cdv A outer s H E) (fun cls d _ H => E cls d H) := takes_of rfl rfl rfl rfl
    have po : PassesOwn (model P w) (cxOf (L2.CX P w) P w Z.K Z.mg base nm_node_in "node_in" (defScope st_node_in) Z.f_node_in cdv A outer s H E).A (cxOf (L2.CX P w) P w Z.K Z.mg base nm_node_in "node_in" (defScope st_node_in) Z.f_node_in cdv A outer s H E).env (cxOf (L2.CX P w) P w Z.K Z.mg base nm_node_in "node_in" (defScope st_node_in) Z.f_node_in cdv A outer s H E).xe := passes_of rfl
    refine ⟨t_node_in Z n (fun cls d _ H => E cls d H), ?_, rd_node_in T h⟩
    exact (pss_cons (ps_if (pt_cmpR op_gt (pv 3) (pe_glob rfl T.g_MOST_DEEP ⟨_, rfl⟩) (nomark _)) (pss_one (ps_raiseO rfl tk T.ox_NoSheet T.oi_NoSheet T.ot_NoSheet G_NoSheet_init (hr.mono (by omega)) T.b_NoSheet_init passF rfl T.g_NoSheet (pa_cons (pe_fld (pv 0) rfl) (pa_cons pe_str pa_nil)))) pss_nil)
      (pss_cons (ps_set (i := 4) sc_node_in.nd rfl (Or.inl rfl) (pe_fld (pv 0) rfl))
      (pss_cons (ps_set (i := 5) sc_node_in.nd rfl (Or.inl rfl) (pe_methZ (pv 0) T.cl_Look T.mt_Look_within G_Look_within (hr.mono (by omega)) T.b_Look_within (fun σ => passAt tk σ) (pa_cons pe_int (pa_cons (pe_glob rfl T.g_NEW ⟨_, rfl⟩) pa_nil))))
      (pss_cons (ps_asg (pe_callS G_own_numbers (hr.mono (by omega)) rfl T.m_own_numbers T.k_own_numbers T.b_own_numbers (fun σ => passAt tk σ) (pa_cons (pv 0) (pa_cons (pv 1) (pa_cons (pv 2) (pa_cons (pv 5) pa_nil))))) (pg_un rfl (pgs_cons (pg_name (i := 6) sc_node_in.nd rfl (Or.inl rfl)) (pgs_cons (pg_name (i := 7) sc_node_in.nd rfl (Or.inl rfl)) pgs_nil))))
      (pss_cons (ps_set (i := 8) sc_node_in.nd rfl (Or.inl rfl) (pe_lst pa_nil))
      (pss_cons (ps_for po rfl (pi_range1 rfl T.n_range (pa_cons (pv 7) pa_nil)) (pg_name (i := 9) sc_node_in.nd rfl (Or.inl rfl)) (pss_one (ps_expr (pe_bm PySem.F.plainAttrs_list PySem.F.slot_list_append PySem.F.type_list_append mt_append (pv 8) (pa_cons (pe_callS G_node_in (hr.mono (by omega)) rfl T.m_node_in T.k_node_in T.b_node_in (fun σ => passAt tk σ) (pa_cons (pv 0) (pa_cons (pv 1) (pa_cons (pv 2) (pa_cons (pe_op op_addU (pv 3) pe_int) pa_nil))))) pa_nil)))))
      (pss_one (ps_ret (pe_tup (pa_cons (pv 5) (pa_cons (pv 4) (pa_cons (pv 6) (pa_cons (pe_callTy call_tuple' (by rfl) T.n_tuple (by decide +kernel) (pa_cons (pv 8) pa_nil)) pa_nil)))))))))))))

theorem sc_functions : FnScope nm_functions ["sheet"] (defScope st_functions) := ⟨rfl, rfl, rfl, by decide +kernel, rfl, by decide +kernel, by decide +kernel⟩
theorem ok_functions {P : Program} {w : World} {base : Heap} {Z : Adr} (T : Top Z) (G_Look_init : FnOk P w Z.K Z.mg base (L2.CX P w) 1 Z.f_Look_init Z.d_Look_init ["self", "numbers"] (sp_Look_init Z)) (G_heads_in : FnOk P w Z.K Z.mg base (L2.CX P w) 5 Z.f_heads_in Z.d_heads_in ["look"] (sp_heads_in Z)) (G_node_in : FnOk P w Z.K Z.mg base (L2.CX P w) (5 + 12) Z.f_node_in Z.d_node_in ["look", "heads", "boxes", "deep"] (sp_node_in Z 12)) (G_NoSheet_init : FnOk P w Z.K Z.mg base (L2.CX P w) 1 Z.f_NoSheet_init Z.d_NoSheet_init ["self", "place", "word"] (sp_NoSheet_init Z)) : FnOk P w Z.K Z.mg base (L2.CX P w) 18 Z.f_functions Z.d_functions ["sheet"] (sp_functions Z) := by
  refine FnOk.mono (T.F_functions.okX (k := 17) sc_functions (fun vs H Q E h => ?_) (fun cdv A outer s H vs Q E hr h => ?_)) (by decide)
  · obtain ⟨a0, rfl, _⟩ := h; rfl
  · obtain ⟨a0, rfl, h⟩ := h
    have tk : Takes (cxOf (L2.CX P w) P w Z.K Z.mg base nm_functions "functions" (defScope st_functions) Z.f_functions cdv A outer s H E) (fun cls d _ H => E cls d H) := takes_of rfl rfl rfl rfl
    have po : PassesOwn (model P w) (cxOf (L2.CX P w) P w Z.K Z.mg base nm_functions "functions" (defScope st_functions) Z.f_functions cdv A outer s H E).A (cxOf (L2.CX P w) P w Z.K Z.mg base nm_functions "functions" (defScope st_functions) Z.f_functions cdv A outer s H E).env (cxOf (L2.CX P w) P w Z.K Z.mg base nm_functions "functions" (defScope st_functions) Z.f_functions cdv A outer s H E).xe := passes_of rfl
    refine ⟨t_functions Z (fun cls d _ H => E cls d H), ?_, rd_functions T h⟩
    exact (pss_cons (ps_set (i := 1) sc_functions.nd rfl (Or.inl rfl) (pe_makeZ T.M_Look G_Look_init (hr.mono (by decide)) rfl T.g_Look T.b_Look_init (fun σ => passAt tk σ) (pa_cons (pv 0) pa_nil)))
      (pss_cons (ps_set (i := 2) sc_functions.nd rfl (Or.inl rfl) (pe_callS G_heads_in (hr.mono (by decide)) rfl T.m_heads_in T.k_heads_in T.b_heads_in (fun σ => passAt tk σ) (pa_cons (pv 1) pa_nil)))
      (pss_cons (ps_set (i := 3) sc_functions.nd rfl (Or.inl rfl) (pe_lst pa_nil))
      (pss_cons (ps_for po rfl (pi_list (pv 2)) (pg_un rfl (pgs_cons (pg_name (i := 4) sc_functions.nd rfl (Or.inl rfl)) (pgs_cons (pg_name (i := 5) sc_functions.nd rfl (Or.inl rfl)) pgs_nil))) (pss_one (ps_expr (pe_bm PySem.F.plainAttrs_list PySem.F.slot_list_append PySem.F.type_list_append mt_append (pv 3) (pa_cons (pe_tup (pa_cons (pv 4) (pa_cons (pv 5) (pa_cons (pe_callS G_node_in (hr.mono (by decide)) rfl T.m_node_in T.k_node_in T.b_node_in (fun σ => passAt tk σ) (pa_cons (pv 1) (pa_cons (pv 2) (pa_cons (pv 5) (pa_cons pe_int pa_nil))))) pa_nil)))) pa_nil)))))
      (pss_cons (ps_if (pt_cmpR op_lt (pe_fld (pv 1) rfl) (pe_callB call_len' (by rfl) T.n_len (by decide +kernel) (pa_cons (pe_fld (pv 1) rfl) pa_nil)) (nomark _)) (pss_one (ps_raiseO rfl tk T.ox_NoSheet T.oi_NoSheet T.ot_NoSheet G_NoSheet_init (hr.mono (by decide)) T.b_NoSheet_init passF rfl T.g_NoSheet (pa_cons (pe_fld (pv 1) rfl) (pa_cons pe_str pa_nil)))) pss_nil)
      (pss_one (ps_ret (pv 3))))))))

theorem sc_wrong : FnScope nm_wrong ["numbers"] (defScope st_wrong) := ⟨rfl, rfl, rfl, by decide +kernel, rfl, by decide +kernel, by decide +kernel⟩
theorem ok_wrong {P : Program} {w : World} {base : Heap} {Z : Adr} (T : Top Z) (G_functions : FnOk P w Z.K Z.mg base (L2.CX P w) 18 Z.f_functions Z.d_functions ["sheet"] (sp_functions Z)) : FnOk P w Z.K Z.mg base (L2.CX P w) 19 Z.f_wrong Z.d_wrong ["numbers"] (sp_wrong Z) := by
  refine FnOk.mono (T.F_wrong.okX (k := 18) sc_wrong (fun vs H Q E h => ?_) (fun cdv A outer s H vs Q E hr h => ?_)) (by decide)
  · obtain ⟨a0, rfl, _⟩ := h; rfl
  · obtain ⟨a0, rfl, h⟩ := h
    have tk : Takes (cxOf (L2.CX P w) P w Z.K Z.mg base nm_wrong "wrong" (defScope st_wrong) Z.f_wrong cdv A outer s H E) (fun cls d _ H => E cls d H) := takes_of rfl rfl rfl rfl
    have po : PassesOwn (model P w) (cxOf (L2.CX P w) P w Z.K Z.mg base nm_wrong "wrong" (defScope st_wrong) Z.f_wrong cdv A outer s H E).A (cxOf (L2.CX P w) P w Z.K Z.mg base nm_wrong "wrong" (defScope st_wrong) Z.f_wrong cdv A outer s H E).env (cxOf (L2.CX P w) P w Z.K Z.mg base nm_wrong "wrong" (defScope st_wrong) Z.f_wrong cdv A outer s H E).xe := passes_of rfl
    refine ⟨t_wrong Z (fun cls d _ H => E cls d H), ?_, rd_wrong T h⟩
    exact (pss_cons (ps_set (i := 1) sc_wrong.nd rfl (Or.inl rfl) pe_non)
      (pss_cons (ps_try_as (i := 2) (tb := (fun W => (tDrop (tCallS (sp_functions Z) (WE W) (tCons (tVar 0) tNil))))) (ts := (fun a cls d => (tAsg (tTup (tCons (tXf a cls d Z.c_NoSheet "place" (tVar 2)) (tCons (tXf a cls d Z.c_NoSheet "word" (tVar 2)) tNil))) (gName 1)))) rfl rfl sc_wrong.nd rfl rfl ⟨rfl, by decide, Or.inl T.g_NoSheet⟩ tk (fun W pn xe tk po => (pss_one (ps_expr (pe_callS G_functions (hr.mono (by decide)) rfl T.m_functions T.k_functions T.b_functions (fun σ => passAt tk σ) (pa_cons (pv 0) pa_nil))))) (fun a oe cls d pn hz hf => (pss_one (ps_set (i := 1) sc_wrong.nd rfl (Or.inl rfl) (pe_tup (pa_cons (pe_xf T.xf_NoSheet T.na_NoSheet_place hz hf (pv 2)) (pa_cons (pe_xf T.xf_NoSheet T.na_NoSheet_word hz hf (pv 2)) pa_nil)))))))
      (pss_one (ps_ret (pv 1)))))

theorem sc_nodes_in : FnScope nm_nodes_in ["node"] (defScope st_nodes_in) := ⟨rfl, rfl, rfl, by decide +kernel, rfl, by decide +kernel, by decide +kernel⟩
theorem ok_nodes_in {P : Program} {w : World} {base : Heap} {Z : Adr} (T : Top Z) (n : Nat) (G_nodes_in : FnOk P w Z.K Z.mg base (L2.CX P w) (0 + n) Z.f_nodes_in Z.d_nodes_in ["node"] (sp_nodes_in Z n)) : FnOk P w Z.K Z.mg base (L2.CX P w) (0 + n + 1) Z.f_nodes_in Z.d_nodes_in ["node"] (sp_nodes_in Z (n + 1)) := by
  refine T.F_nodes_in.okX (k := 0 + n) sc_nodes_in (fun vs H Q E h => ?_) (fun cdv A outer s H vs Q E hr h => ?_)
  · obtain ⟨a0, rfl, _⟩ := h; rfl
  · obtain ⟨a0, rfl, h⟩ := h
    have tk : Takes (cxOf (L2.CX P w) P w Z.K Z.mg base nm_nodes_in "nodes_in" (defScope st_nodes_in) Z.f_nodes_in cdv A outer s H E) (fun cls d _ H => E cls d H) := takes_of rfl rfl rfl rfl
    have po : PassesOwn (model P w) (cxOf (L2.CX P w) P w Z.K Z.mg base nm_nodes_in "nodes_in" (defScope st_nodes_in) Z.f_nodes_in cdv A outer s H E).A (cxOf (L2.CX P w) P w Z.K Z.mg base nm_nodes_in "nodes_in" (defScope st_nodes_in) Z.f_nodes_in cdv A outer s H E).env (cxOf (L2.CX P w) P w Z.K Z.mg base nm_nodes_in "nodes_in" (defScope st_nodes_in) Z.f_nodes_in cdv A outer s H E).xe := passes_of rfl
    refine ⟨t_nodes_in Z n (fun cls d _ H => E cls d H), ?_, rd_nodes_in T h⟩
    exact (pss_cons (ps_set (i := 1) sc_nodes_in.nd rfl (Or.inl rfl) (pe_lst (pa_cons (pv 0) pa_nil)))
      (pss_cons (ps_for po rfl (pi_tup (pe_ix ix_seq (pv 0) pe_int (fun _ _ => rfl))) (pg_name (i := 2) sc_nodes_in.nd rfl (Or.inl rfl)) (pss_one (ps_expr (pe_bm PySem.F.plainAttrs_list PySem.F.slot_list_extend PySem.F.type_list_extend mt_extend (pv 1) (pa_cons (pe_callS G_nodes_in (hr.mono (by omega)) rfl T.m_nodes_in T.k_nodes_in T.b_nodes_in (fun σ => passAt tk σ) (pa_cons (pv 2) pa_nil)) pa_nil)))))
      (pss_one (ps_ret (pv 1)))))

theorem sc_nodes : FnScope nm_nodes ["sheet"] (defScope st_nodes) := ⟨rfl, rfl, rfl, by decide +kernel, rfl, by decide +kernel, by decide +kernel⟩
theorem ok_nodes {P : Program} {w : World} {base : Heap} {Z : Adr} (T : Top Z) (G_functions : FnOk P w Z.K Z.mg base (L2.CX P w) 18 Z.f_functions Z.d_functions ["sheet"] (sp_functions Z)) (G_nodes_in : FnOk P w Z.K Z.mg base (L2.CX P w) (0 + 12) Z.f_nodes_in Z.d_nodes_in ["node"] (sp_nodes_in Z 12)) : FnOk P w Z.K Z.mg base (L2.CX P w) 19 Z.f_nodes Z.d_nodes ["sheet"] (sp_nodes Z) := by
  refine FnOk.mono (T.F_nodes.okX (k := 18) sc_nodes (fun vs H Q E h => ?_) (fun cdv A outer s H vs Q E hr h => ?_)) (by decide)
  · obtain ⟨a0, rfl, _⟩ := h; rfl
  · obtain ⟨a0, rfl, h⟩ := h
    have tk : Takes (cxOf (L2.CX P w) P w Z.K Z.mg base nm_nodes "nodes" (defScope st_nodes) Z.f_nodes cdv A outer s H E) (fun cls d _ H => E cls d H) := takes_of rfl rfl rfl rfl
    have po : PassesOwn (model P w) (cxOf (L2.CX P w) P w Z.K Z.mg base nm_nodes "nodes" (defScope st_nodes) Z.f_nodes cdv A outer s H E).A (cxOf (L2.CX P w) P w Z.K Z.mg base nm_nodes "nodes" (defScope st_nodes) Z.f_nodes cdv A outer s H E).env (cxOf (L2.CX P w) P w Z.K Z.mg base nm_nodes "nodes" (defScope st_nodes) Z.f_nodes cdv A outer s H E).xe := passes_of rfl
    refine ⟨t_nodes Z (fun cls d _ H => E cls d H), ?_, rd_nodes T h⟩
    exact (pss_cons (ps_set (i := 1) sc_nodes.nd rfl (Or.inl rfl) (pe_lst pa_nil))
      (pss_cons (ps_for po rfl (pi_list (pe_callS G_functions (hr.mono (by decide)) rfl T.m_functions T.k_functions T.b_functions (fun σ => passAt tk σ) (pa_cons (pv 0) pa_nil))) (pg_un rfl (pgs_cons (pg_name (i := 2) sc_nodes.nd rfl (Or.inl rfl)) (pgs_cons (pg_name (i := 3) sc_nodes.nd rfl (Or.inl rfl)) (pgs_cons (pg_name (i := 4) sc_nodes.nd rfl (Or.inl rfl)) pgs_nil)))) (pss_one (ps_expr (pe_bm PySem.F.plainAttrs_list PySem.F.slot_list_extend PySem.F.type_list_extend mt_extend (pv 1) (pa_cons (pe_callS G_nodes_in (hr.mono (by decide)) rfl T.m_nodes_in T.k_nodes_in T.b_nodes_in (fun σ => passAt tk σ) (pa_cons (pv 4) pa_nil)) pa_nil)))))
      (pss_one (ps_ret (pv 1)))))

theorem sc_Lmixed : FnScope nm_Lmixed ["_law_cell", "_law_k"] (defScope st_Lmixed) := ⟨rfl, rfl, rfl, by decide +kernel, rfl, by decide +kernel, by decide +kernel⟩
theorem ok_Lmixed {P : Program} {w : World} {base : Heap} {Z : Adr} (T : Top Z)  : FnOk P w Z.K Z.mg base (L2.CX P w) 1 Z.f_Lmixed Z.d_Lmixed ["_law_cell", "_law_k"] (sp_Lmixed Z) := by
  refine FnOk.mono (T.F_Lmixed.okX (k := 0) sc_Lmixed (fun vs H Q E h => ?_) (fun cdv A outer s H vs Q E hr h => ?_)) (by decide)
  · obtain ⟨a0, a1, rfl, _⟩ := h; rfl
  · obtain ⟨a0, a1, rfl, h⟩ := h
    have tk : Takes (cxOf (L2.CX P w) P w Z.K Z.mg base nm_Lmixed "_law_mixed" (defScope st_Lmixed) Z.f_Lmixed cdv A outer s H E) (fun cls d _ H => E cls d H) := takes_of rfl rfl rfl rfl
    have po : PassesOwn (model P w) (cxOf (L2.CX P w) P w Z.K Z.mg base nm_Lmixed "_law_mixed" (defScope st_Lmixed) Z.f_Lmixed cdv A outer s H E).A (cxOf (L2.CX P w) P w Z.K Z.mg base nm_Lmixed "_law_mixed" (defScope st_Lmixed) Z.f_Lmixed cdv A outer s H E).env (cxOf (L2.CX P w) P w Z.K Z.mg base nm_Lmixed "_law_mixed" (defScope st_Lmixed) Z.f_Lmixed cdv A outer s H E).xe := passes_of rfl
    refine ⟨t_Lmixed Z (fun cls d _ H => E cls d H), ?_, rd_Lmixed T h⟩
    exact (pss_cons (ps_set (i := 2) sc_Lmixed.nd rfl (Or.inl rfl) (pe_op op_md (pe_op op_ml (pe_op op_addU (pe_op op_addU (pe_op op_md (pv 0) pe_int) (pe_op op_ml pe_int (pv 1))) pe_int) pe_int) pe_int))
      (pss_cons (ps_set (i := 3) sc_Lmixed.nd rfl (Or.inl rfl) (pe_op op_md (pe_op op_addU (pe_op op_addU (pe_op op_ml (pv 2) (pv 2)) (pe_op op_ml pe_int (pv 2))) (pe_op op_ml pe_int (pv 1))) pe_int))
      (pss_one (ps_ret (pe_op op_fdv (pe_op op_md (pe_op op_ml (pv 3) (pe_op op_addU (pv 3) pe_int)) pe_int) pe_int)))))

theorem sc_Ltake : FnScope nm_Ltake ["_law_state", "_law_many"] (defScope st_Ltake) := ⟨rfl, rfl, rfl, by decide +kernel, rfl, by decide +kernel, by decide +kernel⟩
theorem ok_Ltake {P : Program} {w : World} {base : Heap} {Z : Adr} (T : Top Z) (G_Lmixed : FnOk P w Z.K Z.mg base (L2.CX P w) 1 Z.f_Lmixed Z.d_Lmixed ["_law_cell", "_law_k"] (sp_Lmixed Z)) : FnOk P w Z.K Z.mg base (L2.CX P w) 2 Z.f_Ltake Z.d_Ltake ["_law_state", "_law_many"] (sp_Ltake Z) := by
  refine FnOk.mono (T.F_Ltake.okX (k := 1) sc_Ltake (fun vs H Q E h => ?_) (fun cdv A outer s H vs Q E hr h => ?_)) (by decide)
  · obtain ⟨a0, a1, rfl, _⟩ := h; rfl
  · obtain ⟨a0, a1, rfl, h⟩ := h
    have tk : Takes (cxOf (L2.CX P w) P w Z.K Z.mg base nm_Ltake "_law_take" (defScope st_Ltake) Z.f_Ltake cdv A outer s H E) (fun cls d _ H => E cls d H) := takes_of rfl rfl rfl rfl
    have po : PassesOwn (model P w) (cxOf (L2.CX P w) P w Z.K Z.mg base nm_Ltake "_law_take" (defScope st_Ltake) Z.f_Ltake cdv A outer s H E).A (cxOf (L2.CX P w) P w Z.K Z.mg base nm_Ltake "_law_take" (defScope st_Ltake) Z.f_Ltake cdv A outer s H E).env (cxOf (L2.CX P w) P w Z.K Z.mg base nm_Ltake "_law_take" (defScope st_Ltake) Z.f_Ltake cdv A outer s H E).xe := passes_of rfl
    refine ⟨t_Ltake Z (fun cls d _ H => E cls d H), ?_, rd_Ltake T h⟩
    exact (C8.pss_cut (ps_if (pt_cmpR (op_eqU (hr.units)) (pe_ix ix_seq (pv 0) pe_int (fun _ _ => rfl)) pe_int (nomark _)) (pss_cons (ps_set (i := 2) sc_Ltake.nd rfl (Or.inl rfl) (pe_ix ix_seq (pv 0) pe_int (fun _ _ => rfl)))
      (pss_cons (ps_set (i := 3) sc_Ltake.nd rfl (Or.inl rfl) (pe_ix ix_seq (pv 0) pe_int (fun _ _ => rfl)))
      (pss_cons (ps_asg (pe_op op_addU (pv 3) pe_int) (pg_sub (pv 0) pe_int set_list))
      (pss_cons (ps_set (i := 4) sc_Ltake.nd rfl (Or.inl rfl) pe_int)
      (C8.pss_cut (ps_if (pt_cmpR op_lt (pv 3) (pe_callB call_len' (by rfl) T.n_len (by decide +kernel) (pa_cons (pv 2) pa_nil)) (nomark _)) (pss_one (ps_set (i := 4) sc_Ltake.nd rfl (Or.inl rfl) (pe_ix ix_seq (pv 2) (pv 3) (fun _ _ => rfl)))) (pss_one (ps_if (pt_cmpR op_gt (pe_callB call_len' (by rfl) T.n_len (by decide +kernel) (pa_cons (pv 2) pa_nil)) pe_int (nomark _)) (pss_one (ps_set (i := 4) sc_Ltake.nd rfl (Or.inl rfl) (pe_op op_md (pe_ix ix_seq (pv 2) (pe_op op_md (pv 3) (pe_callB call_len' (by rfl) T.n_len (by decide +kernel) (pa_cons (pv 2) pa_nil))) (fun _ _ => rfl)) (pe_powc (by unfold CPow; decide) (by decide +kernel))))) pss_nil)))
      (pss_cons (ps_if (pt_cmpR op_lt (pe_callB call_abs' (by rfl) T.n_abs (by decide +kernel) (pa_cons (pv 4) pa_nil)) (pe_powc (by unfold CPow; decide) (by decide +kernel)) (nomark _)) (pss_one (ps_ret (pe_op op_md (pe_callS G_Lmixed (hr.mono (by decide)) rfl T.m_Lmixed T.k_Lmixed T.b_Lmixed (fun σ => passAt tk σ) (pa_cons (pv 4) (pa_cons (pv 3) pa_nil))) (pv 1)))) pss_nil)
      (pss_one (ps_asg (pe_callB call_abs' (by rfl) T.n_abs (by decide +kernel) (pa_cons (pv 4) pa_nil)) (pg_sub (pv 0) pe_int set_list))))))))) pss_nil)
      (pss_cons (ps_set (i := 5) sc_Ltake.nd rfl (Or.inl rfl) (pe_op op_md (pe_ix ix_seq (pv 0) pe_int (fun _ _ => rfl)) (pv 1)))
      (pss_cons (ps_asg (pe_op op_fdv (pe_ix ix_seq (pv 0) pe_int (fun _ _ => rfl)) (pv 1)) (pg_sub (pv 0) pe_int set_list))
      (pss_one (ps_ret (pv 5))))))

theorem sc_Lheads : FnScope nm_Lheads ["_law_state"] (defScope st_Lheads) := ⟨rfl, rfl, rfl, by decide +kernel, rfl, by decide +kernel, by decide +kernel⟩
theorem ok_Lheads {P : Program} {w : World} {base : Heap} {Z : Adr} (T : Top Z) (G_Ltake : FnOk P w Z.K Z.mg base (L2.CX P w) 2 Z.f_Ltake Z.d_Ltake ["_law_state", "_law_many"] (sp_Ltake Z)) : FnOk P w Z.K Z.mg base (L2.CX P w) 3 Z.f_Lheads Z.d_Lheads ["_law_state"] (sp_Lheads Z) := by
  refine FnOk.mono (T.F_Lheads.okX (k := 2) sc_Lheads (fun vs H Q E h => ?_) (fun cdv A outer s H vs Q E hr h => ?_)) (by decide)
  · obtain ⟨a0, rfl, _⟩ := h; rfl
  · obtain ⟨a0, rfl, h⟩ := h
    have tk : Takes (cxOf (L2.CX P w) P w Z.K Z.mg base nm_Lheads "_law_heads" (defScope st_Lheads) Z.f_Lheads cdv A outer s H E) (fun cls d _ H => E cls d H) := takes_of rfl rfl rfl rfl
    have po : PassesOwn (model P w) (cxOf (L2.CX P w) P w Z.K Z.mg base nm_Lheads "_law_heads" (defScope st_Lheads) Z.f_Lheads cdv A outer s H E).A (cxOf (L2.CX P w) P w Z.K Z.mg base nm_Lheads "_law_heads" (defScope st_Lheads) Z.f_Lheads cdv A outer s H E).env (cxOf (L2.CX P w) P w Z.K Z.mg base nm_Lheads "_law_heads" (defScope st_Lheads) Z.f_Lheads cdv A outer s H E).xe := passes_of rfl
    refine ⟨t_Lheads Z (fun cls d _ H => E cls d H), ?_, rd_Lheads T h⟩
    exact (pss_cons (ps_set (i := 1) sc_Lheads.nd rfl (Or.inl rfl) (pe_op op_addU pe_int (pe_callS G_Ltake (hr.mono (by decide)) rfl T.m_Ltake T.k_Ltake T.b_Ltake (fun σ => passAt tk σ) (pa_cons (pv 0) (pa_cons pe_int pa_nil)))))
      (C8.pss_cut (ps_if (pt_cmpR (op_eqU (hr.units)) (pe_callS G_Ltake (hr.mono (by decide)) rfl T.m_Ltake T.k_Ltake T.b_Ltake (fun σ => passAt tk σ) (pa_cons (pv 0) (pa_cons pe_int pa_nil))) pe_int (nomark _)) (pss_one (ps_set (i := 1) sc_Lheads.nd rfl (Or.inl rfl) (pe_op op_addU pe_int (pe_callS G_Ltake (hr.mono (by decide)) rfl T.m_Ltake T.k_Ltake T.b_Ltake (fun σ => passAt tk σ) (pa_cons (pv 0) (pa_cons pe_int pa_nil)))))) pss_nil)
      (pss_cons (ps_set (i := 2) sc_Lheads.nd rfl (Or.inl rfl) (pe_lst pa_nil))
      (pss_cons (ps_for po rfl (pi_range1 rfl T.n_range (pa_cons (pv 1) pa_nil)) (pg_name (i := 3) sc_Lheads.nd rfl (Or.inl rfl)) (pss_cons (ps_set (i := 4) sc_Lheads.nd rfl (Or.inl rfl) (pe_op op_ml (pe_callS G_Ltake (hr.mono (by decide)) rfl T.m_Ltake T.k_Ltake T.b_Ltake (fun σ => passAt tk σ) (pa_cons (pv 0) (pa_cons pe_int pa_nil))) (pe_callTy call_int' (by rfl) T.n_int (by decide +kernel) (pa_cons (pe_cmpR op_gt (pv 3) pe_int (nomark _)) pa_nil))))
      (pss_one (ps_expr (pe_bm PySem.F.plainAttrs_list PySem.F.slot_list_append PySem.F.type_list_append mt_append (pv 2) (pa_cons (pe_tup (pa_cons (pv 4) (pa_cons (pe_op op_addU (pv 4) (pe_callS G_Ltake (hr.mono (by decide)) rfl T.m_Ltake T.k_Ltake T.b_Ltake (fun σ => passAt tk σ) (pa_cons (pv 0) (pa_cons (pe_ix ix_seq (pe_lst (pa_cons (pe_op op_sub pe_int (pv 4)) (pa_cons pe_int pa_nil))) (pe_callS G_Ltake (hr.mono (by decide)) rfl T.m_Ltake T.k_Ltake T.b_Ltake (fun σ => passAt tk σ) (pa_cons (pv 0) (pa_cons pe_int pa_nil))) (fun _ _ => rfl)) pa_nil)))) pa_nil))) pa_nil))))))
      (pss_one (ps_ret (pv 2)))))))

theorem sc_Lnumber : FnScope nm_Lnumber ["_law_state"] (defScope st_Lnumber) := ⟨rfl, rfl, rfl, by decide +kernel, rfl, by decide +kernel, by decide +kernel⟩
theorem ok_Lnumber {P : Program} {w : World} {base : Heap} {Z : Adr} (T : Top Z) (G_Ltake : FnOk P w Z.K Z.mg base (L2.CX P w) 2 Z.f_Ltake Z.d_Ltake ["_law_state", "_law_many"] (sp_Ltake Z)) : FnOk P w Z.K Z.mg base (L2.CX P w) 3 Z.f_Lnumber Z.d_Lnumber ["_law_state"] (sp_Lnumber Z) := by
  refine FnOk.mono (T.F_Lnumber.okX (k := 2) sc_Lnumber (fun vs H Q E h => ?_) (fun cdv A outer s H vs Q E hr h => ?_)) (by decide)
  · obtain ⟨a0, rfl, _⟩ := h; rfl
  · obtain ⟨a0, rfl, h⟩ := h
    have tk : Takes (cxOf (L2.CX P w) P w Z.K Z.mg base nm_Lnumber "_law_number" (defScope st_Lnumber) Z.f_Lnumber cdv A outer s H E) (fun cls d _ H => E cls d H) := takes_of rfl rfl rfl rfl
    have po : PassesOwn (model P w) (cxOf (L2.CX P w) P w Z.K Z.mg base nm_Lnumber "_law_number" (defScope st_Lnumber) Z.f_Lnumber cdv A outer s H E).A (cxOf (L2.CX P w) P w Z.K Z.mg base nm_Lnumber "_law_number" (defScope st_Lnumber) Z.f_Lnumber cdv A outer s H E).env (cxOf (L2.CX P w) P w Z.K Z.mg base nm_Lnumber "_law_number" (defScope st_Lnumber) Z.f_Lnumber cdv A outer s H E).xe := passes_of rfl
    refine ⟨t_Lnumber Z (fun cls d _ H => E cls d H), ?_, rd_Lnumber T h⟩
    exact (pss_cons (ps_set (i := 1) sc_Lnumber.nd rfl (Or.inl rfl) (pe_callS G_Ltake (hr.mono (by decide)) rfl T.m_Ltake T.k_Ltake T.b_Ltake (fun σ => passAt tk σ) (pa_cons (pv 0) (pa_cons pe_int pa_nil))))
      (pss_cons (ps_if (pt_cmpR op_lt (pv 1) pe_int (nomark _)) (pss_one (ps_ret (pe_op op_sub (pe_callS G_Ltake (hr.mono (by decide)) rfl T.m_Ltake T.k_Ltake T.b_Ltake (fun σ => passAt tk σ) (pa_cons (pv 0) (pa_cons pe_int pa_nil))) pe_int))) pss_nil)
      (pss_cons (ps_if (pt_cmpR (op_eqU (hr.units)) (pv 1) pe_int (nomark _)) (pss_one (ps_ret (pe_op op_sub (pe_callS G_Ltake (hr.mono (by decide)) rfl T.m_Ltake T.k_Ltake T.b_Ltake (fun σ => passAt tk σ) (pa_cons (pv 0) (pa_cons pe_int pa_nil))) pe_int))) pss_nil)
      (pss_one (ps_ret (pe_op op_addU (pe_op op_sub (pe_callS G_Ltake (hr.mono (by decide)) rfl T.m_Ltake T.k_Ltake T.b_Ltake (fun σ => passAt tk σ) (pa_cons (pv 0) (pa_cons (pe_op op_sub (pe_op op_ml pe_int (pe_powc (by unfold CPow; decide) (by decide +kernel))) pe_int) pa_nil))) (pe_powc (by unfold CPow; decide) (by decide +kernel))) pe_int))))))

theorem sc_Lleaf : FnScope nm_Lleaf ["_law_state", "_law_boxes"] (defScope st_Lleaf) := ⟨rfl, rfl, rfl, by decide +kernel, rfl, by decide +kernel, by decide +kernel⟩
theorem ok_Lleaf {P : Program} {w : World} {base : Heap} {Z : Adr} (T : Top Z) (G_Ltake : FnOk P w Z.K Z.mg base (L2.CX P w) 2 Z.f_Ltake Z.d_Ltake ["_law_state", "_law_many"] (sp_Ltake Z)) (G_Lnumber : FnOk P w Z.K Z.mg base (L2.CX P w) 3 Z.f_Lnumber Z.d_Lnumber ["_law_state"] (sp_Lnumber Z)) : FnOk P w Z.K Z.mg base (L2.CX P w) 4 Z.f_Lleaf Z.d_Lleaf ["_law_state", "_law_boxes"] (sp_Lleaf Z) := by
  refine FnOk.mono (T.F_Lleaf.okX (k := 3) sc_Lleaf (fun vs H Q E h => ?_) (fun cdv A outer s H vs Q E hr h => ?_)) (by decide)
  · obtain ⟨a0, a1, rfl, _⟩ := h; rfl
  · obtain ⟨a0, a1, rfl, h⟩ := h
    have tk : Takes (cxOf (L2.CX P w) P w Z.K Z.mg base nm_Lleaf "_law_leaf" (defScope st_Lleaf) Z.f_Lleaf cdv A outer s H E) (fun cls d _ H => E cls d H) := takes_of rfl rfl rfl rfl
    have po : PassesOwn (model P w) (cxOf (L2.CX P w) P w Z.K Z.mg base nm_Lleaf "_law_leaf" (defScope st_Lleaf) Z.f_Lleaf cdv A outer s H E).A (cxOf (L2.CX P w) P w Z.K Z.mg base nm_Lleaf "_law_leaf" (defScope st_Lleaf) Z.f_Lleaf cdv A outer s H E).env (cxOf (L2.CX P w) P w Z.K Z.mg base nm_Lleaf "_law_leaf" (defScope st_Lleaf) Z.f_Lleaf cdv A outer s H E).xe := passes_of rfl
    refine ⟨t_Lleaf Z (fun cls d _ H => E cls d H), ?_, rd_Lleaf T h⟩
    exact (pss_cons (ps_set (i := 2) sc_Lleaf.nd rfl (Or.inl rfl) (pe_callS G_Ltake (hr.mono (by decide)) rfl T.m_Ltake T.k_Ltake T.b_Ltake (fun σ => passAt tk σ) (pa_cons (pv 0) (pa_cons pe_int pa_nil))))
      (pss_cons (ps_if (PW.pt (pw_and (pt_cmpR op_lt (pv 2) pe_int (nomark _)) (pw_and1 (pt_cmpR op_gt (pv 1) pe_int (nomark _))))) (pss_one (ps_ret (pe_lst (pa_cons pe_int (pa_cons (pe_callS G_Ltake (hr.mono (by decide)) rfl T.m_Ltake T.k_Ltake T.b_Ltake (fun σ => passAt tk σ) (pa_cons (pv 0) (pa_cons (pv 1) pa_nil))) pa_nil))))) pss_nil)
      (pss_cons (ps_if (pt_cmpR (op_eqU (hr.units)) (pv 2) pe_int (nomark _)) (pss_one (ps_ret (pe_lst (pa_cons pe_int pa_nil)))) pss_nil)
      (pss_one (ps_ret (pe_lst (pa_cons pe_int (pa_cons (pe_callS G_Lnumber (hr.mono (by decide)) rfl T.m_Lnumber T.k_Lnumber T.b_Lnumber (fun σ => passAt tk σ) (pa_cons (pv 0) pa_nil)) pa_nil))))))))

theorem sc_Lhead : FnScope nm_Lhead ["_law_state", "_law_heads_here", "_law_boxes"] (defScope st_Lhead) := ⟨rfl, rfl, rfl, by decide +kernel, rfl, by decide +kernel, by decide +kernel⟩
theorem ok_Lhead {P : Program} {w : World} {base : Heap} {Z : Adr} (T : Top Z) (G_Ltake : FnOk P w Z.K Z.mg base (L2.CX P w) 2 Z.f_Ltake Z.d_Ltake ["_law_state", "_law_many"] (sp_Ltake Z)) : FnOk P w Z.K Z.mg base (L2.CX P w) 3 Z.f_Lhead Z.d_Lhead ["_law_state", "_law_heads_here", "_law_boxes"] (sp_Lhead Z) := by
  refine FnOk.mono (T.F_Lhead.okX (k := 2) sc_Lhead (fun vs H Q E h => ?_) (fun cdv A outer s H vs Q E hr h => ?_)) (by decide)
  · obtain ⟨a0, a1, a2, rfl, _⟩ := h; rfl
  · obtain ⟨a0, a1, a2, rfl, h⟩ := h
    have tk : Takes (cxOf (L2.CX P w) P w Z.K Z.mg base nm_Lhead "_law_head" (defScope st_Lhead) Z.f_Lhead cdv A outer s H E) (fun cls d _ H => E cls d H) := takes_of rfl rfl rfl rfl
    have po : PassesOwn (model P w) (cxOf (L2.CX P w) P w Z.K Z.mg base nm_Lhead "_law_head" (defScope st_Lhead) Z.f_Lhead cdv A outer s H E).A (cxOf (L2.CX P w) P w Z.K Z.mg base nm_Lhead "_law_head" (defScope st_Lhead) Z.f_Lhead cdv A outer s H E).env (cxOf (L2.CX P w) P w Z.K Z.mg base nm_Lhead "_law_head" (defScope st_Lhead) Z.f_Lhead cdv A outer s H E).xe := passes_of rfl
    refine ⟨t_Lhead Z (fun cls d _ H => E cls d H), ?_, rd_Lhead T h⟩
    exact (pss_cons (ps_set (i := 3) sc_Lhead.nd rfl (Or.inl rfl) (pe_callS G_Ltake (hr.mono (by decide)) rfl T.m_Ltake T.k_Ltake T.b_Ltake (fun σ => passAt tk σ) (pa_cons (pv 0) (pa_cons pe_int pa_nil))))
      (pss_cons (ps_if (PW.pt (pw_and (pt_cmpR (op_eqU (hr.units)) (pv 3) pe_int (nomark _)) (pw_and1 (pt_cmpR op_gt (pv 2) pe_int (nomark _))))) (pss_one (ps_ret (pe_tup (pa_cons (pe_lst (pa_cons pe_int (pa_cons (pe_callS G_Ltake (hr.mono (by decide)) rfl T.m_Ltake T.k_Ltake T.b_Ltake (fun σ => passAt tk σ) (pa_cons (pv 0) (pa_cons (pv 2) pa_nil))) pa_nil))) (pa_cons pe_int pa_nil))))) pss_nil)
      (pss_cons (ps_if (pt_cmpR (op_eqU (hr.units)) (pv 3) pe_int (nomark _)) (pss_cons (ps_set (i := 4) sc_Lhead.nd rfl (Or.inl rfl) (pe_op op_addU pe_int (pe_callS G_Ltake (hr.mono (by decide)) rfl T.m_Ltake T.k_Ltake T.b_Ltake (fun σ => passAt tk σ) (pa_cons (pv 0) (pa_cons (pe_ix ix_seq (pe_lst (pa_cons pe_int (pa_cons pe_int (pa_cons pe_int (pa_cons pe_int pa_nil))))) (pe_callS G_Ltake (hr.mono (by decide)) rfl T.m_Ltake T.k_Ltake T.b_Ltake (fun σ => passAt tk σ) (pa_cons (pv 0) (pa_cons pe_int pa_nil))) (fun _ _ => rfl)) pa_nil)))))
      (pss_one (ps_ret (pe_tup (pa_cons (pe_lst (pa_cons pe_int (pa_cons (pv 4) pa_nil))) (pa_cons (pv 4) pa_nil)))))) pss_nil)
      (pss_cons (ps_if (pt_cmpR (op_eqU (hr.units)) (pv 3) pe_int (nomark _)) (pss_cons (ps_set (i := 4) sc_Lhead.nd rfl (Or.inl rfl) (pe_op op_addU pe_int (pe_callS G_Ltake (hr.mono (by decide)) rfl T.m_Ltake T.k_Ltake T.b_Ltake (fun σ => passAt tk σ) (pa_cons (pv 0) (pa_cons (pe_ix ix_seq (pe_lst (pa_cons pe_int (pa_cons pe_int (pa_cons pe_int (pa_cons pe_int pa_nil))))) (pe_callS G_Ltake (hr.mono (by decide)) rfl T.m_Ltake T.k_Ltake T.b_Ltake (fun σ => passAt tk σ) (pa_cons (pv 0) (pa_cons pe_int pa_nil))) (fun _ _ => rfl)) pa_nil)))))
      (pss_one (ps_ret (pe_tup (pa_cons (pe_lst (pa_cons pe_int (pa_cons (pv 4) pa_nil))) (pa_cons (pe_op op_addU (pv 4) pe_int) pa_nil)))))) pss_nil)
      (pss_cons (ps_if (pt_cmpR (op_eqU (hr.units)) (pv 3) pe_int (nomark _)) (pss_cons (ps_set (i := 5) sc_Lhead.nd rfl (Or.inl rfl) (pe_callS G_Ltake (hr.mono (by decide)) rfl T.m_Ltake T.k_Ltake T.b_Ltake (fun σ => passAt tk σ) (pa_cons (pv 0) (pa_cons (pe_callB call_len' (by rfl) T.n_len (by decide +kernel) (pa_cons (pv 1) pa_nil)) pa_nil))))
      (pss_one (ps_ret (pe_tup (pa_cons (pe_lst (pa_cons pe_int (pa_cons (pv 5) pa_nil))) (pa_cons (pe_ix ix_seq (pe_ix ix_seq (pv 1) (pv 5) (fun _ _ => rfl)) pe_int (fun _ _ => rfl)) pa_nil)))))) pss_nil)
      (pss_one (ps_ret (pe_tup (pa_cons (pe_lst (pa_cons (pv 3) pa_nil)) (pa_cons (pe_ix ix_seq (pe_lst (pa_cons pe_int (pa_cons pe_int (pa_cons pe_int (pa_cons pe_int (pa_cons pe_int (pa_cons pe_int (pa_cons pe_int (pa_cons pe_int (pa_cons pe_int (pa_cons pe_int (pa_cons pe_int (pa_cons pe_int (pa_cons pe_int (pa_cons pe_int (pa_cons pe_int (pa_cons pe_int (pa_cons pe_int (pa_cons pe_int (pa_cons pe_int (pa_cons pe_int pa_nil))))))))))))))))))))) (pv 3) (fun _ _ => rfl)) pa_nil))))))))))

theorem sc_Lnode : FnScope nm_Lnode ["_law_state", "_law_heads_here", "_law_boxes", "_law_deep", "_law_room"] (defScope st_Lnode) := ⟨rfl, rfl, rfl, by decide +kernel, rfl, by decide +kernel, by decide +kernel⟩
theorem ok_Lnode {P : Program} {w : World} {base : Heap} {Z : Adr} (T : Top Z) (n : Nat) (G_Lhead : FnOk P w Z.K Z.mg base (L2.CX P w) 3 Z.f_Lhead Z.d_Lhead ["_law_state", "_law_heads_here", "_law_boxes"] (sp_Lhead Z)) (G_Lleaf : FnOk P w Z.K Z.mg base (L2.CX P w) 4 Z.f_Lleaf Z.d_Lleaf ["_law_state", "_law_boxes"] (sp_Lleaf Z)) (G_Lnode : FnOk P w Z.K Z.mg base (L2.CX P w) (4 + n) Z.f_Lnode Z.d_Lnode ["_law_state", "_law_heads_here", "_law_boxes", "_law_deep", "_law_room"] (sp_Lnode Z n)) : FnOk P w Z.K Z.mg base (L2.CX P w) (4 + n + 1) Z.f_Lnode Z.d_Lnode ["_law_state", "_law_heads_here", "_law_boxes", "_law_deep", "_law_room"] (sp_Lnode Z (n + 1)) := by
  refine T.F_Lnode.okX (k := 4 + n) sc_Lnode (fun vs H Q E h => ?_) (fun cdv A outer s H vs Q E hr h => ?_)
  · obtain ⟨a0, a1, a2, a3, a4, rfl, _⟩ := h; rfl
  · obtain ⟨a0, a1, a2, a3, a4, rfl, h⟩ := h
    have tk : Takes (cxOf (L2.CX P w) P w Z.K Z.mg base nm_Lnode "_law_node" (defScope st_Lnode) Z.f_Lnode cdv A outer s H E) (fun cls d _ H => E cls d H) := takes_of rfl rfl rfl rfl
    have po : PassesOwn (model P w) (cxOf (L2.CX P w) P w Z.K Z.mg base nm_Lnode "_law_node" (defScope st_Lnode) Z.f_Lnode cdv A outer s H E).A (cxOf (L2.CX P w) P w Z.K Z.mg base nm_Lnode "_law_node" (defScope st_Lnode) Z.f_Lnode cdv A outer s H E).env (cxOf (L2.CX P w) P w Z.K Z.mg base nm_Lnode "_law_node" (defScope st_Lnode) Z.f_Lnode cdv A outer s H E).xe := passes_of rfl
    refine ⟨t_Lnode Z n (fun cls d _ H => E cls d H), ?_, rd_Lnode T h⟩
    exact (pss_cons (ps_asg (pe_callS G_Lhead (hr.mono (by omega)) rfl T.m_Lhead T.k_Lhead T.b_Lhead (fun σ => passAt tk σ) (pa_cons (pv 0) (pa_cons (pv 1) (pa_cons (pv 2) pa_nil)))) (pg_un rfl (pgs_cons (pg_name (i := 5) sc_Lnode.nd rfl (Or.inl rfl)) (pgs_cons (pg_name (i := 6) sc_Lnode.nd rfl (Or.inl rfl)) pgs_nil))))
      (pss_cons (ps_if (PW.pt (pw_or (PW.pt (pw_and (pt_cmpR op_lt (pe_ix ix_seq (pv 5) pe_int (fun _ _ => rfl)) pe_int (nomark _)) (pw_and1 (pt_cmpR op_lt (pe_callB call_len' (by rfl) T.n_len (by decide +kernel) (pa_cons (pv 5) pa_nil)) pe_int (nomark _))))) (pw_or (pt_cmpR op_gt (pv 6) (pe_ix ix_seq (pv 4) pe_int (fun _ _ => rfl)) (nomark _)) (pw_or1 (PW.pt (pw_and (pt_cmpR op_gt (pv 6) pe_int (nomark _)) (pw_and1 (pt_cmpR op_gt (pv 3) pe_int (nomark _))))))))) (pss_one (ps_ret (pe_callS G_Lleaf (hr.mono (by omega)) rfl T.m_Lleaf T.k_Lleaf T.b_Lleaf (fun σ => passAt tk σ) (pa_cons (pv 0) (pa_cons (pv 2) pa_nil))))) pss_nil)
      (pss_cons (ps_asg (pe_op op_sub (pe_ix ix_seq (pv 4) pe_int (fun _ _ => rfl)) (pv 6)) (pg_sub (pv 4) pe_int set_list))
      (pss_cons (ps_for po rfl (pi_range1 rfl T.n_range (pa_cons (pv 6) pa_nil)) (pg_name (i := 7) sc_Lnode.nd rfl (Or.inl rfl)) (pss_one (ps_set (i := 5) sc_Lnode.nd rfl (Or.inl rfl) (pe_op op_addU (pv 5) (pe_callS G_Lnode (hr.mono (by omega)) rfl T.m_Lnode T.k_Lnode T.b_Lnode (fun σ => passAt tk σ) (pa_cons (pv 0) (pa_cons (pv 1) (pa_cons (pv 2) (pa_cons (pe_op op_addU (pv 3) pe_int) (pa_cons (pv 4) pa_nil))))))))))
      (pss_one (ps_ret (pv 5)))))))

theorem sc_Lsheet : FnScope nm_Lsheet ["_law_state", "_law_most"] (defScope st_Lsheet) := ⟨rfl, rfl, rfl, by decide +kernel, rfl, by decide +kernel, by decide +kernel⟩
theorem ok_Lsheet {P : Program} {w : World} {base : Heap} {Z : Adr} (T : Top Z) (G_Lheads : FnOk P w Z.K Z.mg base (L2.CX P w) 3 Z.f_Lheads Z.d_Lheads ["_law_state"] (sp_Lheads Z)) (G_Lnode : FnOk P w Z.K Z.mg base (L2.CX P w) (4 + 12) Z.f_Lnode Z.d_Lnode ["_law_state", "_law_heads_here", "_law_boxes", "_law_deep", "_law_room"] (sp_Lnode Z 12)) (G_Ltake : FnOk P w Z.K Z.mg base (L2.CX P w) 2 Z.f_Ltake Z.d_Ltake ["_law_state", "_law_many"] (sp_Ltake Z)) : FnOk P w Z.K Z.mg base (L2.CX P w) 17 Z.f_Lsheet Z.d_Lsheet ["_law_state", "_law_most"] (sp_Lsheet Z) := by
  refine FnOk.mono (T.F_Lsheet.okX (k := 16) sc_Lsheet (fun vs H Q E h => ?_) (fun cdv A outer s H vs Q E hr h => ?_)) (by decide)
  · obtain ⟨a0, a1, rfl, _⟩ := h; rfl
  · obtain ⟨a0, a1, rfl, h⟩ := h
    have tk : Takes (cxOf (L2.CX P w) P w Z.K Z.mg base nm_Lsheet "_law_sheet" (defScope st_Lsheet) Z.f_Lsheet cdv A outer s H E) (fun cls d _ H => E cls d H) := takes_of rfl rfl rfl rfl
    have po : PassesOwn (model P w) (cxOf (L2.CX P w) P w Z.K Z.mg base nm_Lsheet "_law_sheet" (defScope st_Lsheet) Z.f_Lsheet cdv A outer s H E).A (cxOf (L2.CX P w) P w Z.K Z.mg base nm_Lsheet "_law_sheet" (defScope st_Lsheet) Z.f_Lsheet cdv A outer s H E).env (cxOf (L2.CX P w) P w Z.K Z.mg base nm_Lsheet "_law_sheet" (defScope st_Lsheet) Z.f_Lsheet cdv A outer s H E).xe := passes_of rfl
    refine ⟨t_Lsheet Z (fun cls d _ H => E cls d H), ?_, rd_Lsheet T h⟩
    exact (pss_cons (ps_set (i := 2) sc_Lsheet.nd rfl (Or.inl rfl) (pe_callS G_Lheads (hr.mono (by decide)) rfl T.m_Lheads T.k_Lheads T.b_Lheads (fun σ => passAt tk σ) (pa_cons (pv 0) pa_nil)))
      (pss_cons (ps_set (i := 3) sc_Lsheet.nd rfl (Or.inl rfl) (pe_lst (pa_cons (pe_callB call_len' (by rfl) T.n_len (by decide +kernel) (pa_cons (pv 2) pa_nil)) pa_nil)))
      (pss_cons (ps_for po rfl (pi_list (pv 2)) (pg_un rfl (pgs_cons (pg_name (i := 4) sc_Lsheet.nd rfl (Or.inl rfl)) (pgs_cons (pg_name (i := 5) sc_Lsheet.nd rfl (Or.inl rfl)) pgs_nil))) (pss_one (ps_expr (pe_bm PySem.F.plainAttrs_list PySem.F.slot_list_extend PySem.F.type_list_extend mt_extend (pv 3) (pa_cons (pe_lst (pa_cons (pv 4) (pa_cons (pv 5) pa_nil))) pa_nil)))))
      (pss_cons (ps_for po rfl (pi_list (pv 2)) (pg_un rfl (pgs_cons (pg_name (i := 4) sc_Lsheet.nd rfl (Or.inl rfl)) (pgs_cons (pg_name (i := 5) sc_Lsheet.nd rfl (Or.inl rfl)) pgs_nil))) (pss_one (ps_expr (pe_bm PySem.F.plainAttrs_list PySem.F.slot_list_extend PySem.F.type_list_extend mt_extend (pv 3) (pa_cons (pe_callS G_Lnode (hr.mono (by decide)) rfl T.m_Lnode T.k_Lnode T.b_Lnode (fun σ => passAt tk σ) (pa_cons (pv 0) (pa_cons (pv 2) (pa_cons (pv 5) (pa_cons pe_int (pa_cons (pe_lst (pa_cons (pe_callS G_Ltake (hr.mono (by decide)) rfl T.m_Ltake T.k_Ltake T.b_Ltake (fun σ => passAt tk σ) (pa_cons (pv 0) (pa_cons (pv 1) pa_nil))) pa_nil)) pa_nil)))))) pa_nil)))))
      (pss_one (ps_ret (pv 3)))))))

theorem sc_Lown : FnScope nm_Lown ["_law_sheet_here", "_law_at", "_law_boxes"] (defScope st_Lown) := ⟨rfl, rfl, rfl, by decide +kernel, rfl, by decide +kernel, by decide +kernel⟩
theorem ok_Lown {P : Program} {w : World} {base : Heap} {Z : Adr} (T : Top Z)  : FnOk P w Z.K Z.mg base (L2.CX P w) 1 Z.f_Lown Z.d_Lown ["_law_sheet_here", "_law_at", "_law_boxes"] (sp_Lown Z) := by
  refine FnOk.mono (T.F_Lown.okX (k := 0) sc_Lown (fun vs H Q E h => ?_) (fun cdv A outer s H vs Q E hr h => ?_)) (by decide)
  · obtain ⟨a0, a1, a2, rfl, _⟩ := h; rfl
  · obtain ⟨a0, a1, a2, rfl, h⟩ := h
    have tk : Takes (cxOf (L2.CX P w) P w Z.K Z.mg base nm_Lown "_law_own" (defScope st_Lown) Z.f_Lown cdv A outer s H E) (fun cls d _ H => E cls d H) := takes_of rfl rfl rfl rfl
    have po : PassesOwn (model P w) (cxOf (L2.CX P w) P w Z.K Z.mg base nm_Lown "_law_own" (defScope st_Lown) Z.f_Lown cdv A outer s H E).A (cxOf (L2.CX P w) P w Z.K Z.mg base nm_Lown "_law_own" (defScope st_Lown) Z.f_Lown cdv A outer s H E).env (cxOf (L2.CX P w) P w Z.K Z.mg base nm_Lown "_law_own" (defScope st_Lown) Z.f_Lown cdv A outer s H E).xe := passes_of rfl
    refine ⟨t_Lown Z (fun cls d _ H => E cls d H), ?_, rd_Lown T h⟩
    exact (pss_cons (ps_set (i := 3) sc_Lown.nd rfl (Or.inl rfl) (pe_ix ix_seq (pv 0) (pv 1) (fun _ _ => rfl)))
      (pss_cons (ps_if (pt_cmpR op_in_seq (pv 3) (pe_tup (pa_cons pe_int (pa_cons pe_int pa_nil))) (by rfl)) (pss_one (ps_ret (pe_tup (pa_cons pe_int (pa_cons (pe_op op_sub (pv 2) pe_int) pa_nil))))) pss_nil)
      (pss_cons (ps_if (pt_cmpR op_in_seq (pv 3) (pe_tup (pa_cons pe_int (pa_cons pe_int pa_nil))) (by rfl)) (pss_one (ps_ret (pe_tup (pa_cons (pe_op op_sub (pv 3) pe_int) (pa_cons pe_int pa_nil))))) pss_nil)
      (pss_one (ps_ret (pe_tup (pa_cons pe_int (pa_cons (pe_op op_sub (pe_ix ix_seq (pv 0) pe_int (fun _ _ => rfl)) pe_int) pa_nil))))))))

theorem sc_Lparts : FnScope nm_Lparts ["_law_sheet_here", "_law_at"] (defScope st_Lparts) := ⟨rfl, rfl, rfl, by decide +kernel, rfl, by decide +kernel, by decide +kernel⟩
theorem ok_Lparts {P : Program} {w : World} {base : Heap} {Z : Adr} (T : Top Z)  : FnOk P w Z.K Z.mg base (L2.CX P w) 1 Z.f_Lparts Z.d_Lparts ["_law_sheet_here", "_law_at"] (sp_Lparts Z) := by
  refine FnOk.mono (T.F_Lparts.okX (k := 0) sc_Lparts (fun vs H Q E h => ?_) (fun cdv A outer s H vs Q E hr h => ?_)) (by decide)
  · obtain ⟨a0, a1, rfl, _⟩ := h; rfl
  · obtain ⟨a0, a1, rfl, h⟩ := h
    have tk : Takes (cxOf (L2.CX P w) P w Z.K Z.mg base nm_Lparts "_law_parts" (defScope st_Lparts) Z.f_Lparts cdv A outer s H E) (fun cls d _ H => E cls d H) := takes_of rfl rfl rfl rfl
    have po : PassesOwn (model P w) (cxOf (L2.CX P w) P w Z.K Z.mg base nm_Lparts "_law_parts" (defScope st_Lparts) Z.f_Lparts cdv A outer s H E).A (cxOf (L2.CX P w) P w Z.K Z.mg base nm_Lparts "_law_parts" (defScope st_Lparts) Z.f_Lparts cdv A outer s H E).env (cxOf (L2.CX P w) P w Z.K Z.mg base nm_Lparts "_law_parts" (defScope st_Lparts) Z.f_Lparts cdv A outer s H E).xe := passes_of rfl
    refine ⟨t_Lparts Z (fun cls d _ H => E cls d H), ?_, rd_Lparts T h⟩
    exact (pss_cons (ps_set (i := 2) sc_Lparts.nd rfl (Or.inl rfl) (pe_ix ix_seq (pv 0) (pv 1) (fun _ _ => rfl)))
      (pss_cons (ps_if (pt_cmpR (op_eqU (hr.units)) (pv 2) pe_int (nomark _)) (pss_one (ps_ret (pe_ix ix_seq (pv 0) (pe_op op_addU (pv 1) pe_int) (fun _ _ => rfl)))) pss_nil)
      (pss_cons (ps_if (pt_cmpR (op_eqU (hr.units)) (pv 2) pe_int (nomark _)) (pss_one (ps_ret (pe_op op_addU (pe_ix ix_seq (pv 0) (pe_op op_addU (pv 1) pe_int) (fun _ _ => rfl)) pe_int))) pss_nil)
      (pss_cons (ps_if (pt_cmpR (op_eqU (hr.units)) (pv 2) pe_int (nomark _)) (pss_one (ps_ret (pe_ix ix_seq (pv 0) (pe_op op_addU pe_int (pe_op op_ml pe_int (pe_ix ix_seq (pv 0) (pe_op op_addU (pv 1) pe_int) (fun _ _ => rfl)))) (fun _ _ => rfl)))) pss_nil)
      (pss_one (ps_ret (pe_ix ix_seq (pe_lst (pa_cons pe_int (pa_cons pe_int (pa_cons pe_int (pa_cons pe_int (pa_cons pe_int (pa_cons pe_int (pa_cons pe_int (pa_cons pe_int (pa_cons pe_int (pa_cons pe_int (pa_cons pe_int (pa_cons pe_int (pa_cons pe_int (pa_cons pe_int (pa_cons pe_int (pa_cons pe_int (pa_cons pe_int (pa_cons pe_int (pa_cons pe_int (pa_cons pe_int pa_nil))))))))))))))))))))) (pv 2) (fun _ _ => rfl))))))))

theorem sc_Lhead_wrong : FnScope nm_Lhead_wrong ["_law_sheet_here"] (defScope st_Lhead_wrong) := ⟨rfl, rfl, rfl, by decide +kernel, rfl, by decide +kernel, by decide +kernel⟩
theorem ok_Lhead_wrong {P : Program} {w : World} {base : Heap} {Z : Adr} (T : Top Z)  : FnOk P w Z.K Z.mg base (L2.CX P w) 1 Z.f_Lhead_wrong Z.d_Lhead_wrong ["_law_sheet_here"] (sp_Lhead_wrong Z) := by
  refine FnOk.mono (T.F_Lhead_wrong.okX (k := 0) sc_Lhead_wrong (fun vs H Q E h => ?_) (fun cdv A outer s H vs Q E hr h => ?_)) (by decide)
  · obtain ⟨a0, rfl, _⟩ := h; rfl
  · obtain ⟨a0, rfl, h⟩ := h
    have tk : Takes (cxOf (L2.CX P w) P w Z.K Z.mg base nm_Lhead_wrong "_law_head_wrong" (defScope st_Lhead_wrong) Z.f_Lhead_wrong cdv A outer s H E) (fun cls d _ H => E cls d H) := takes_of rfl rfl rfl rfl
    have po : PassesOwn (model P w) (cxOf (L2.CX P w) P w Z.K Z.mg base nm_Lhead_wrong "_law_head_wrong" (defScope st_Lhead_wrong) Z.f_Lhead_wrong cdv A outer s H E).A (cxOf (L2.CX P w) P w Z.K Z.mg base nm_Lhead_wrong "_law_head_wrong" (defScope st_Lhead_wrong) Z.f_Lhead_wrong cdv A outer s H E).env (cxOf (L2.CX P w) P w Z.K Z.mg base nm_Lhead_wrong "_law_head_wrong" (defScope st_Lhead_wrong) Z.f_Lhead_wrong cdv A outer s H E).xe := passes_of rfl
    refine ⟨t_Lhead_wrong Z (fun cls d _ H => E cls d H), ?_, rd_Lhead_wrong T h⟩
    exact (pss_cons (ps_if (pt_cmpR (op_eqU (hr.units)) (pe_callB call_len' (by rfl) T.n_len (by decide +kernel) (pa_cons (pv 0) pa_nil)) pe_int (nomark _)) (pss_one (ps_ret (pe_tup (pa_cons pe_int (pa_cons pe_str pa_nil))))) pss_nil)
      (pss_cons (ps_if (pt_not (pt_chain op_le op_le pe_int (pe_ix ix_seq (pv 0) pe_int (fun _ _ => rfl)) pe_int)) (pss_one (ps_ret (pe_tup (pa_cons pe_int (pa_cons pe_str pa_nil))))) pss_nil)
      (pss_cons (ps_for po rfl (pi_range2 rfl T.n_range (pa_cons pe_int (pa_cons (pe_op op_addU pe_int (pe_op op_ml pe_int (pe_ix ix_seq (pv 0) pe_int (fun _ _ => rfl)))) pa_nil))) (pg_name (i := 1) sc_Lhead_wrong.nd rfl (Or.inl rfl)) (pss_cons (ps_if (pt_cmpR (op_eqU (hr.units)) (pv 1) (pe_callB call_len' (by rfl) T.n_len (by decide +kernel) (pa_cons (pv 0) pa_nil)) (nomark _)) (pss_one (ps_ret (pe_tup (pa_cons (pv 1) (pa_cons pe_str pa_nil))))) pss_nil)
      (pss_cons (ps_if (PW.pt (pw_and (pt_cmpR (op_eqU (hr.units)) (pe_op op_md (pv 1) pe_int) pe_int (nomark _)) (pw_and1 (pt_not (pt_chain op_le op_le pe_int (pe_ix ix_seq (pv 0) (pv 1) (fun _ _ => rfl)) (pe_op op_ml pe_int (pe_callTy call_int' (by rfl) T.n_int (by decide +kernel) (pa_cons (pe_cmpR op_gt (pv 1) pe_int (nomark _)) pa_nil)))))))) (pss_one (ps_ret (pe_tup (pa_cons (pv 1) (pa_cons pe_str pa_nil))))) pss_nil)
      (pss_one (ps_if (PW.pt (pw_and (pt_cmpR (op_eqU (hr.units)) (pe_op op_md (pv 1) pe_int) pe_int (nomark _)) (pw_and1 (pt_not (pt_chain op_le op_le (pe_ix ix_seq (pv 0) (pe_op op_sub (pv 1) pe_int) (fun _ _ => rfl)) (pe_ix ix_seq (pv 0) (pv 1) (fun _ _ => rfl)) pe_int))))) (pss_one (ps_ret (pe_tup (pa_cons (pv 1) (pa_cons pe_str pa_nil))))) pss_nil)))))
      (pss_one (ps_ret pe_non)))))

theorem sc_Lwrong : FnScope nm_Lwrong ["_law_sheet_here"] (defScope st_Lwrong) := ⟨rfl, rfl, rfl, by decide +kernel, rfl, by decide +kernel, by decide +kernel⟩
theorem ok_Lwrong {P : Program} {w : World} {base : Heap} {Z : Adr} (T : Top Z) (G_Lhead_wrong : FnOk P w Z.K Z.mg base (L2.CX P w) 1 Z.f_Lhead_wrong Z.d_Lhead_wrong ["_law_sheet_here"] (sp_Lhead_wrong Z)) (G_Lown : FnOk P w Z.K Z.mg base (L2.CX P w) 1 Z.f_Lown Z.d_Lown ["_law_sheet_here", "_law_at", "_law_boxes"] (sp_Lown Z)) (G_Lparts : FnOk P w Z.K Z.mg base (L2.CX P w) 1 Z.f_Lparts Z.d_Lparts ["_law_sheet_here", "_law_at"] (sp_Lparts Z)) : FnOk P w Z.K Z.mg base (L2.CX P w) 2 Z.f_Lwrong Z.d_Lwrong ["_law_sheet_here"] (sp_Lwrong Z) := by
  refine FnOk.mono (T.F_Lwrong.okX (k := 1) sc_Lwrong (fun vs H Q E h => ?_) (fun cdv A outer s H vs Q E hr h => ?_)) (by decide)
  · obtain ⟨a0, rfl, _⟩ := h; rfl
  · obtain ⟨a0, rfl, h⟩ := h
    have tk : Takes (cxOf (L2.CX P w) P w Z.K Z.mg base nm_Lwrong "_law_wrong" (defScope st_Lwrong) Z.f_Lwrong cdv A outer s H E) (fun cls d _ H => E cls d H) := takes_of rfl rfl rfl rfl
    have po : PassesOwn (model P w) (cxOf (L2.CX P w) P w Z.K Z.mg base nm_Lwrong "_law_wrong" (defScope st_Lwrong) Z.f_Lwrong cdv A outer s H E).A (cxOf (L2.CX P w) P w Z.K Z.mg base nm_Lwrong "_law_wrong" (defScope st_Lwrong) Z.f_Lwrong cdv A outer s H E).env (cxOf (L2.CX P w) P w Z.K Z.mg base nm_Lwrong "_law_wrong" (defScope st_Lwrong) Z.f_Lwrong cdv A outer s H E).xe := passes_of rfl
    refine ⟨t_Lwrong Z (fun cls d _ H => E cls d H), ?_, rd_Lwrong T h⟩
    exact (pss_cons (ps_set (i := 1) sc_Lwrong.nd rfl (Or.inl rfl) (pe_callS G_Lhead_wrong (hr.mono (by decide)) rfl T.m_Lhead_wrong T.k_Lhead_wrong T.b_Lhead_wrong (fun σ => passAt tk σ) (pa_cons (pv 0) pa_nil)))
      (pss_cons (ps_if (pt_cmpR op_notU (pv 1) pe_non (nomark _)) (pss_one (ps_ret (pv 1))) pss_nil)
      (pss_cons (ps_setLc (i := 2) (own := [(".0", 9), ("_law_k", 10)]) (g := (gName 10)) (tt := tYes) rfl sc_Lwrong.nd rfl rfl (sw_true rfl rfl rfl (by decide +kernel)) (pi_range3 rfl T.n_range (pa_cons (pe_ix ix_seq (pv 0) pe_int (fun _ _ => rfl)) (pa_cons pe_int (pa_cons (pe_un un_neg pe_int) pa_nil)))) (blkOk_by (own := [(".0", 9), ("_law_k", 10)]) (N := nm_Lwrong) (sc := defScope st_Lwrong) (by decide +kernel)) (fun _ _ _ _ _ => (pg_name (i := 10) sc_Lwrong.nd rfl (Or.inl rfl))) (fun _ _ _ _ _ => pts_nil) (fun _ _ _ _ _ => (pe_tup (pa_cons pe_int (pa_cons (pe_ix ix_seq (pv 0) (pe_op op_ml pe_int (pv 10)) (fun _ _ => rfl)) pa_nil)))))
      (pss_cons (ps_set (i := 3) sc_Lwrong.nd rfl (Or.inl rfl) (pe_op op_addU pe_int (pe_op op_ml pe_int (pe_ix ix_seq (pv 0) pe_int (fun _ _ => rfl)))))
      (pss_cons (ps_while po (pt_cmpR (op_neU (hr.units)) (pv 2) (pe_lst pa_nil) (nomark _)) (pss_cons (ps_asg (pe_bm0 PySem.F.plainAttrs_list PySem.F.slot_list_pop PySem.F.type_list_pop mt_pop (pv 2)) (pg_un rfl (pgs_cons (pg_name (i := 4) sc_Lwrong.nd rfl (Or.inl rfl)) (pgs_cons (pg_name (i := 5) sc_Lwrong.nd rfl (Or.inl rfl)) pgs_nil))))
      (pss_cons (ps_if (pt_cmpR op_gt (pv 4) pe_int (nomark _)) (pss_one (ps_ret (pe_tup (pa_cons (pv 3) (pa_cons pe_str pa_nil))))) pss_nil)
      (pss_cons (ps_if (pt_cmpR (op_eqU (hr.units)) (pv 3) (pe_callB call_len' (by rfl) T.n_len (by decide +kernel) (pa_cons (pv 0) pa_nil)) (nomark _)) (pss_one (ps_ret (pe_tup (pa_cons (pv 3) (pa_cons pe_str pa_nil))))) pss_nil)
      (pss_cons (ps_if (pt_not (pt_chain op_le op_le pe_int (pe_ix ix_seq (pv 0) (pv 3) (fun _ _ => rfl)) pe_int)) (pss_one (ps_ret (pe_tup (pa_cons (pv 3) (pa_cons pe_str pa_nil))))) pss_nil)
      (pss_cons (ps_set (i := 6) sc_Lwrong.nd rfl (Or.inl rfl) (pe_callTy call_int' (by rfl) T.n_int (by decide +kernel) (pa_cons (pe_cmpR op_in_seq (pe_ix ix_seq (pv 0) (pv 3) (fun _ _ => rfl)) (pe_tup (pa_cons pe_int (pa_cons pe_int (pa_cons pe_int (pa_cons pe_int (pa_cons pe_int (pa_cons pe_int pa_nil))))))) (by rfl)) pa_nil)))
      (pss_cons (ps_if (PW.pt (pw_and (pt_cmpR (op_eqU (hr.units)) (pv 6) pe_int (nomark _)) (pw_and1 (pt_cmpR (op_eqU (hr.units)) (pe_op op_addU (pv 3) pe_int) (pe_callB call_len' (by rfl) T.n_len (by decide +kernel) (pa_cons (pv 0) pa_nil)) (nomark _))))) (pss_one (ps_ret (pe_tup (pa_cons (pe_op op_addU (pv 3) pe_int) (pa_cons pe_str pa_nil))))) pss_nil)
      (C8.pss_cut (ps_if (PW.pt (pw_and (pt_cmpR (op_eqU (hr.units)) (pv 6) pe_int (nomark _)) (pw_and1 (pt_cmpR op_gt (pe_ix ix_seq (pv 0) (pv 3) (fun _ _ => rfl)) pe_int (nomark _))))) (pss_cons (ps_asg (pe_callS G_Lown (hr.mono (by decide)) rfl T.m_Lown T.k_Lown T.b_Lown (fun σ => passAt tk σ) (pa_cons (pv 0) (pa_cons (pv 3) (pa_cons (pv 5) pa_nil)))) (pg_un rfl (pgs_cons (pg_name (i := 7) sc_Lwrong.nd rfl (Or.inl rfl)) (pgs_cons (pg_name (i := 8) sc_Lwrong.nd rfl (Or.inl rfl)) pgs_nil))))
      (pss_one (ps_if (pt_not (pt_chain op_le op_le (pv 7) (pe_ix ix_seq (pv 0) (pe_op op_addU (pv 3) pe_int) (fun _ _ => rfl)) (pv 8))) (pss_one (ps_ret (pe_tup (pa_cons (pe_op op_addU (pv 3) pe_int) (pa_cons pe_str pa_nil))))) pss_nil))) pss_nil)
      (pss_cons (ps_set (i := 2) sc_Lwrong.nd rfl (Or.inl rfl) (pe_op op_addU (pv 2) (pe_op op_rep (pe_lst (pa_cons (pe_tup (pa_cons (pe_op op_addU (pv 4) pe_int) (pa_cons (pv 5) pa_nil))) pa_nil)) (pe_callS G_Lparts (hr.mono (by decide)) rfl T.m_Lparts T.k_Lparts T.b_Lparts (fun σ => passAt tk σ) (pa_cons (pv 0) (pa_cons (pv 3) pa_nil))))))
      (pss_one (ps_set (i := 3) sc_Lwrong.nd rfl (Or.inl rfl) (pe_op op_addU (pe_op op_addU (pv 3) pe_int) (pv 6)))))))))))))
      (pss_cons (ps_if (pt_cmpR op_lt (pv 3) (pe_callB call_len' (by rfl) T.n_len (by decide +kernel) (pa_cons (pv 0) pa_nil)) (nomark _)) (pss_one (ps_ret (pe_tup (pa_cons (pv 3) (pa_cons pe_str pa_nil))))) pss_nil)
      (pss_one (ps_ret pe_non))))))))

theorem sc_Lbent : FnScope nm_Lbent ["_law_state", "_law_sheet_here"] (defScope st_Lbent) := ⟨rfl, rfl, rfl, by decide +kernel, rfl, by decide +kernel, by decide +kernel⟩
theorem ok_Lbent {P : Program} {w : World} {base : Heap} {Z : Adr} (T : Top Z) (G_Ltake : FnOk P w Z.K Z.mg base (L2.CX P w) 2 Z.f_Ltake Z.d_Ltake ["_law_state", "_law_many"] (sp_Ltake Z)) : FnOk P w Z.K Z.mg base (L2.CX P w) 3 Z.f_Lbent Z.d_Lbent ["_law_state", "_law_sheet_here"] (sp_Lbent Z) := by
  refine FnOk.mono (T.F_Lbent.okX (k := 2) sc_Lbent (fun vs H Q E h => ?_) (fun cdv A outer s H vs Q E hr h => ?_)) (by decide)
  · obtain ⟨a0, a1, rfl, _⟩ := h; rfl
  · obtain ⟨a0, a1, rfl, h⟩ := h
    have tk : Takes (cxOf (L2.CX P w) P w Z.K Z.mg base nm_Lbent "_law_bent" (defScope st_Lbent) Z.f_Lbent cdv A outer s H E) (fun cls d _ H => E cls d H) := takes_of rfl rfl rfl rfl
    have po : PassesOwn (model P w) (cxOf (L2.CX P w) P w Z.K Z.mg base nm_Lbent "_law_bent" (defScope st_Lbent) Z.f_Lbent cdv A outer s H E).A (cxOf (L2.CX P w) P w Z.K Z.mg base nm_Lbent "_law_bent" (defScope st_Lbent) Z.f_Lbent cdv A outer s H E).env (cxOf (L2.CX P w) P w Z.K Z.mg base nm_Lbent "_law_bent" (defScope st_Lbent) Z.f_Lbent cdv A outer s H E).xe := passes_of rfl
    refine ⟨t_Lbent Z (fun cls d _ H => E cls d H), ?_, rd_Lbent T h⟩
    exact (pss_cons (ps_set (i := 2) sc_Lbent.nd rfl (Or.inl rfl) (pe_callTy call_list' (by rfl) T.n_list (by decide +kernel) (pa_cons (pv 1) pa_nil)))
      (pss_cons (ps_for po rfl (pi_range1 rfl T.n_range (pa_cons (pe_op op_addU pe_int (pe_callS G_Ltake (hr.mono (by decide)) rfl T.m_Ltake T.k_Ltake T.b_Ltake (fun σ => passAt tk σ) (pa_cons (pv 0) (pa_cons pe_int pa_nil)))) pa_nil)) (pg_name (i := 3) sc_Lbent.nd rfl (Or.inl rfl)) (pss_cons (ps_set (i := 4) sc_Lbent.nd rfl (Or.inl rfl) (pe_callS G_Ltake (hr.mono (by decide)) rfl T.m_Ltake T.k_Ltake T.b_Ltake (fun σ => passAt tk σ) (pa_cons (pv 0) (pa_cons (pe_op op_addU (pe_callB call_len' (by rfl) T.n_len (by decide +kernel) (pa_cons (pv 2) pa_nil)) pe_int) pa_nil))))
      (pss_cons (ps_set (i := 5) sc_Lbent.nd rfl (Or.inl rfl) (pe_ix ix_seq (pe_lst (pa_cons (pe_op op_sub (pe_callS G_Ltake (hr.mono (by decide)) rfl T.m_Ltake T.k_Ltake T.b_Ltake (fun σ => passAt tk σ) (pa_cons (pv 0) (pa_cons pe_int pa_nil))) pe_int) (pa_cons (pe_op op_sub (pe_callS G_Ltake (hr.mono (by decide)) rfl T.m_Ltake T.k_Ltake T.b_Ltake (fun σ => passAt tk σ) (pa_cons (pv 0) (pa_cons pe_int pa_nil))) pe_int) (pa_cons (pe_powc (by unfold CPow; decide) (by decide +kernel)) pa_nil)))) (pe_callS G_Ltake (hr.mono (by decide)) rfl T.m_Ltake T.k_Ltake T.b_Ltake (fun σ => passAt tk σ) (pa_cons (pv 0) (pa_cons pe_int pa_nil))) (fun _ _ => rfl)))
      (pss_cons (ps_set (i := 6) sc_Lbent.nd rfl (Or.inl rfl) (pe_callS G_Ltake (hr.mono (by decide)) rfl T.m_Ltake T.k_Ltake T.b_Ltake (fun σ => passAt tk σ) (pa_cons (pv 0) (pa_cons pe_int pa_nil))))
      (pss_one (ps_if (PW.pt (pw_and (pt_cmpR op_lt (pv 6) pe_int (nomark _)) (pw_and1 (pt_cmpR op_lt (pv 4) (pe_callB call_len' (by rfl) T.n_len (by decide +kernel) (pa_cons (pv 2) pa_nil)) (nomark _))))) (pss_one (ps_asg (pv 5) (pg_sub (pv 2) (pv 4) set_list))) (pss_one (ps_if (pt_cmpR (op_eqU (hr.units)) (pv 6) pe_int (nomark _)) (pss_one (ps_set (i := 2) sc_Lbent.nd rfl (Or.inl rfl) (pe_op op_addU (pe_op op_addU (pe_slice sl_U (pv 2) po_none (po_some (pv 4))) (pe_lst (pa_cons (pv 5) pa_nil))) (pe_slice sl_U (pv 2) (po_some (pv 4)) po_none)))) (pss_one (ps_if (pt_cmpR (op_eqU (hr.units)) (pv 6) pe_int (nomark _)) (pss_one (ps_set (i := 2) sc_Lbent.nd rfl (Or.inl rfl) (pe_op op_addU (pe_slice sl_U (pv 2) po_none (po_some (pv 4))) (pe_slice sl_U (pv 2) (po_some (pe_op op_addU (pv 4) pe_int)) po_none)))) (pss_one (ps_if (pt_cmpR (op_eqU (hr.units)) (pv 6) pe_int (nomark _)) (pss_one (ps_set (i := 2) sc_Lbent.nd rfl (Or.inl rfl) (pe_slice sl_U (pv 2) po_none (po_some (pv 4))))) (pss_one (ps_expr (pe_bm PySem.F.plainAttrs_list PySem.F.slot_list_append PySem.F.type_list_append mt_append (pv 2) (pa_cons (pv 5) pa_nil))))))))))))))))
      (C8.pss_cut (ps_if (pt_cmpR (op_eqU (hr.units)) (pe_callS G_Ltake (hr.mono (by decide)) rfl T.m_Ltake T.k_Ltake T.b_Ltake (fun σ => passAt tk σ) (pa_cons (pv 0) (pa_cons pe_int pa_nil))) pe_int (nomark _)) (pss_cons (ps_set (i := 7) sc_Lbent.nd rfl (Or.inl rfl) (pe_lst (pa_cons (pe_lst (pa_cons pe_int pa_nil)) (pa_cons (pe_lst (pa_cons pe_int pa_nil)) (pa_cons (pe_lst (pa_cons pe_int (pa_cons pe_int pa_nil))) (pa_cons (pe_lst (pa_cons pe_int (pa_cons pe_int pa_nil))) (pa_cons (pe_lst (pa_cons pe_int (pa_cons pe_int pa_nil))) (pa_cons (pe_lst (pa_cons pe_int (pa_cons pe_int pa_nil))) (pa_cons (pe_lst (pa_cons pe_int (pa_cons pe_int pa_nil))) (pa_cons (pe_lst (pa_cons pe_int (pa_cons pe_int pa_nil))) (pa_cons (pe_lst (pa_cons pe_int (pa_cons pe_int (pa_cons pe_int pa_nil)))) (pa_cons (pe_lst (pa_cons pe_int pa_nil)) (pa_cons (pe_lst (pa_cons pe_int pa_nil)) (pa_cons (pe_lst (pa_cons pe_int pa_nil)) (pa_cons (pe_lst (pa_cons pe_int (pa_cons pe_int pa_nil))) pa_nil)))))))))))))))
      (pss_cons (ps_set (i := 7) sc_Lbent.nd rfl (Or.inl rfl) (pe_ix ix_seq (pe_op op_addU (pv 7) (pe_lst (pa_cons (pe_lst (pa_cons pe_int (pa_cons pe_int (pa_cons pe_int pa_nil)))) pa_nil))) (pe_callS G_Ltake (hr.mono (by decide)) rfl T.m_Ltake T.k_Ltake T.b_Ltake (fun σ => passAt tk σ) (pa_cons (pv 0) (pa_cons pe_int pa_nil))) (fun _ _ => rfl)))
      (pss_one (ps_set (i := 2) sc_Lbent.nd rfl (Or.inl rfl) (pe_op op_addU (pe_op op_addU (pe_lst (pa_cons pe_int (pa_cons pe_int (pa_cons pe_int (pa_cons pe_int (pa_cons pe_int pa_nil)))))) (pe_op op_rep (pv 7) (pe_op op_addU pe_int (pe_callS G_Ltake (hr.mono (by decide)) rfl T.m_Ltake T.k_Ltake T.b_Ltake (fun σ => passAt tk σ) (pa_cons (pv 0) (pa_cons pe_int pa_nil)))))) (pe_op op_rep (pe_lst (pa_cons pe_int pa_nil)) (pe_callS G_Ltake (hr.mono (by decide)) rfl T.m_Ltake T.k_Ltake T.b_Ltake (fun σ => passAt tk σ) (pa_cons (pv 0) (pa_cons pe_int pa_nil))))))))) pss_nil)
      (pss_one (ps_ret (pv 2))))))

theorem sc_Lheard : FnScope nm_Lheard ["_law_way", "_law_sheet_here"] (defScope st_Lheard) := ⟨rfl, rfl, rfl, by decide +kernel, rfl, by decide +kernel, by decide +kernel⟩
theorem ok_Lheard {P : Program} {w : World} {base : Heap} {Z : Adr} (T : Top Z) (G_functions : FnOk P w Z.K Z.mg base (L2.CX P w) 18 Z.f_functions Z.d_functions ["sheet"] (sp_functions Z)) (G_nodes : FnOk P w Z.K Z.mg base (L2.CX P w) 19 Z.f_nodes Z.d_nodes ["sheet"] (sp_nodes Z)) : FnOk P w Z.K Z.mg base (L2.CX P w) 20 Z.f_Lheard Z.d_Lheard ["_law_way", "_law_sheet_here"] (sp_Lheard Z) := by
  refine FnOk.mono (T.F_Lheard.okX (k := 19) sc_Lheard (fun vs H Q E h => ?_) (fun cdv A outer s H vs Q E hr h => ?_)) (by decide)
  · obtain ⟨a0, a1, rfl, _⟩ := h; rfl
  · obtain ⟨a0, a1, rfl, h⟩ := h
    have tk : Takes (cxOf (L2.CX P w) P w Z.K Z.mg base nm_Lheard "_law_heard" (defScope st_Lheard) Z.f_Lheard cdv A outer s H E) (fun cls d _ H => E cls d H) := takes_of rfl rfl rfl rfl
    have po : PassesOwn (model P w) (cxOf (L2.CX P w) P w Z.K Z.mg base nm_Lheard "_law_heard" (defScope st_Lheard) Z.f_Lheard cdv A outer s H E).A (cxOf (L2.CX P w) P w Z.K Z.mg base nm_Lheard "_law_heard" (defScope st_Lheard) Z.f_Lheard cdv A outer s H E).env (cxOf (L2.CX P w) P w Z.K Z.mg base nm_Lheard "_law_heard" (defScope st_Lheard) Z.f_Lheard cdv A outer s H E).xe := passes_of rfl
    refine ⟨t_Lheard Z (fun cls d _ H => E cls d H), ?_, rd_Lheard T h⟩
    exact (pss_cons (ps_set (i := 2) sc_Lheard.nd rfl (Or.inl rfl) pe_non)
      (pss_cons (ps_set (i := 3) sc_Lheard.nd rfl (Or.inl rfl) pe_non)
      (pss_cons (ps_try_keep (i := 4) (tb := (fun W => (tIfS (tTest (tOp (rEqU Z.K) (tVar 0) (tC (.int 0)))) (tAsg (tCallS (sp_functions Z) (WE W) (tCons (tVar 1) tNil)) (gName 3)) (tAsg (tCallS (sp_nodes Z) (WE W) (tCons (tVar 1) tNil)) (gName 3))))) (ts := (tAsg (tVar 4) (gName 2))) rfl rfl rfl sc_Lheard.nd rfl rfl ⟨rfl, by decide, Or.inl T.g_ChainError⟩ tk (fun W pn xe tk po => (pss_one (ps_if (pt_cmpR (op_eqU (hr.units)) (pv 0) pe_int (nomark _)) (pss_one (ps_set (i := 3) sc_Lheard.nd rfl (Or.inl rfl) (pe_callS G_functions (hr.mono (by decide)) rfl T.m_functions T.k_functions T.b_functions (fun σ => passAt tk σ) (pa_cons (pv 1) pa_nil)))) (pss_one (ps_set (i := 3) sc_Lheard.nd rfl (Or.inl rfl) (pe_callS G_nodes (hr.mono (by decide)) rfl T.m_nodes T.k_nodes T.b_nodes (fun σ => passAt tk σ) (pa_cons (pv 1) pa_nil))))))) (fun a oe pn => (pss_one (ps_set (i := 2) sc_Lheard.nd rfl (Or.inl rfl) (pv 4)))))
      (pss_cons (ps_if (pt_cmpR op_isU (pv 2) pe_non (nomark _)) (pss_one (ps_ret (pe_lst (pa_cons (pe_callB call_isi' (by rfl) T.n_isinstance (by decide +kernel) (pa_cons (pv 3) (pa_cons (pe_bltn (by rfl) T.n_list (by decide +kernel) rfl) pa_nil))) (pa_cons pe_non (pa_cons pe_non pa_nil)))))) pss_nil)
      (pss_cons (ps_set (i := 5) sc_Lheard.nd rfl (Or.inl rfl) (pe_or (pe_callB call_isi3 (by rfl) T.n_isinstance (by decide +kernel) (pa_cons (pv 2) (pa_cons (pe_glob rfl T.g_NoCode rfl) pa_nil))) (pe_or (pe_callB call_isi3 (by rfl) T.n_isinstance (by decide +kernel) (pa_cons (pv 2) (pa_cons (pe_glob rfl T.g_NoName rfl) pa_nil))) (pe_one (pe_callB call_isi3 (by rfl) T.n_isinstance (by decide +kernel) (pa_cons (pv 2) (pa_cons (pe_glob rfl T.g_NoRow rfl) pa_nil)))))))
      (pss_cons (ps_if (PW.pt (pw_or (pt_val (pv 5)) (pw_or (pt_val (pe_callB call_isi3 (by rfl) T.n_isinstance (by decide +kernel) (pa_cons (pv 2) (pa_cons (pe_glob rfl T.g_NoText rfl) pa_nil)))) (pw_or (pt_not (pt_val (pe_callB call_isi3 (by rfl) T.n_isinstance (by decide +kernel) (pa_cons (pv 2) (pa_cons (pe_glob rfl T.g_NoSheet rfl) pa_nil))))) (pw_or1 (pt_not (pt_val (pe_callB call_isi3 (by rfl) T.n_isinstance (by decide +kernel) (pa_cons (pv 2) (pa_cons (pe_bltn (by rfl) T.n_ValueError (by decide +kernel) rfl) pa_nil)))))))))) (pss_one (ps_ret (pe_lst (pa_cons pe_bl (pa_cons pe_non (pa_cons pe_non pa_nil)))))) pss_nil)
      (pss_one (ps_ret (pe_lst (pa_cons (pe_not (pe_callB call_isi' (by rfl) T.n_isinstance (by decide +kernel) (pa_cons (pe_kf (pv 2)) (pa_cons (pe_bltn (by rfl) T.n_bool (by decide +kernel) rfl) pa_nil)))) (pa_cons (pe_kf (pv 2)) (pa_cons (pe_kf (pv 2)) pa_nil))))))))))))

theorem sc_Ledge : FnScope nm_Ledge ["_law_state"] (defScope st_Ledge) := ⟨rfl, rfl, rfl, by decide +kernel, rfl, by decide +kernel, by decide +kernel⟩
theorem ok_Ledge {P : Program} {w : World} {base : Heap} {Z : Adr} (T : Top Z) (G_Ltake : FnOk P w Z.K Z.mg base (L2.CX P w) 2 Z.f_Ltake Z.d_Ltake ["_law_state", "_law_many"] (sp_Ltake Z)) : FnOk P w Z.K Z.mg base (L2.CX P w) 3 Z.f_Ledge Z.d_Ledge ["_law_state"] (sp_Ledge Z) := by
  refine FnOk.mono (T.F_Ledge.okX (k := 2) sc_Ledge (fun vs H Q E h => ?_) (fun cdv A outer s H vs Q E hr h => ?_)) (by decide)
  · obtain ⟨a0, rfl, _⟩ := h; rfl
  · obtain ⟨a0, rfl, h⟩ := h
    have tk : Takes (cxOf (L2.CX P w) P w Z.K Z.mg base nm_Ledge "_law_edge" (defScope st_Ledge) Z.f_Ledge cdv A outer s H E) (fun cls d _ H => E cls d H) := takes_of rfl rfl rfl rfl
    have po : PassesOwn (model P w) (cxOf (L2.CX P w) P w Z.K Z.mg base nm_Ledge "_law_edge" (defScope st_Ledge) Z.f_Ledge cdv A outer s H E).A (cxOf (L2.CX P w) P w Z.K Z.mg base nm_Ledge "_law_edge" (defScope st_Ledge) Z.f_Ledge cdv A outer s H E).env (cxOf (L2.CX P w) P w Z.K Z.mg base nm_Ledge "_law_edge" (defScope st_Ledge) Z.f_Ledge cdv A outer s H E).xe := passes_of rfl
    refine ⟨t_Ledge Z (fun cls d _ H => E cls d H), ?_, rd_Ledge T h⟩
    exact (pss_cons (ps_set (i := 1) sc_Ledge.nd rfl (Or.inl rfl) (pe_callS G_Ltake (hr.mono (by decide)) rfl T.m_Ltake T.k_Ltake T.b_Ltake (fun σ => passAt tk σ) (pa_cons (pv 0) (pa_cons pe_int pa_nil))))
      (pss_cons (ps_set (i := 2) sc_Ledge.nd rfl (Or.inl rfl) (pe_callS G_Ltake (hr.mono (by decide)) rfl T.m_Ltake T.k_Ltake T.b_Ltake (fun σ => passAt tk σ) (pa_cons (pv 0) (pa_cons pe_int pa_nil))))
      (pss_cons (ps_if (pt_cmpR (op_eqU (hr.units)) (pv 1) pe_int (nomark _)) (pss_one (ps_ret (pe_op op_addU (pe_op op_addU (pe_lst (pa_cons (pe_op op_addU pe_int (pv 2)) pa_nil)) (pe_op op_rep (pe_lst (pa_cons pe_int (pa_cons pe_int pa_nil))) (pe_op op_addU pe_int (pv 2)))) (pe_op op_rep (pe_lst (pa_cons pe_int pa_nil)) (pe_op op_addU pe_int (pv 2)))))) pss_nil)
      (pss_cons (ps_if (pt_cmpR (op_eqU (hr.units)) (pv 1) pe_int (nomark _)) (pss_one (ps_ret (pe_lst (pa_cons pe_int (pa_cons pe_int (pa_cons pe_int (pa_cons (pe_op op_addU pe_int (pv 2)) (pa_cons (pe_op op_addU pe_int (pv 2)) (pa_cons pe_int (pa_cons pe_int pa_nil)))))))))) pss_nil)
      (pss_cons (ps_if (pt_cmpR (op_eqU (hr.units)) (pv 1) pe_int (nomark _)) (pss_one (ps_ret (pe_lst (pa_cons pe_int (pa_cons pe_int (pa_cons (pe_op op_addU pe_int (pv 2)) (pa_cons pe_int pa_nil))))))) pss_nil)
      (pss_cons (ps_if (pt_cmpR (op_eqU (hr.units)) (pv 1) pe_int (nomark _)) (pss_cons (ps_set (i := 3) sc_Ledge.nd rfl (Or.inl rfl) (pe_ix ix_seq (pe_lst (pa_cons (pe_op op_addU pe_int (pv 2)) (pa_cons (pe_op op_sub pe_int (pv 2)) pa_nil))) (pe_callS G_Ltake (hr.mono (by decide)) rfl T.m_Ltake T.k_Ltake T.b_Ltake (fun σ => passAt tk σ) (pa_cons (pv 0) (pa_cons pe_int pa_nil))) (fun _ _ => rfl)))
      (pss_one (ps_ret (pe_op op_addU (pe_lst (pa_cons pe_int (pa_cons pe_int (pa_cons pe_int (pa_cons pe_int (pa_cons (pv 3) pa_nil)))))) (pe_op op_rep (pe_lst (pa_cons pe_int pa_nil)) (pv 3)))))) pss_nil)
      (pss_cons (ps_if (pt_cmpR (op_eqU (hr.units)) (pv 1) pe_int (nomark _)) (pss_cons (ps_set (i := 3) sc_Ledge.nd rfl (Or.inl rfl) (pe_ix ix_seq (pe_lst (pa_cons (pe_op op_addU pe_int (pv 2)) (pa_cons (pe_op op_sub pe_int (pv 2)) pa_nil))) (pe_callS G_Ltake (hr.mono (by decide)) rfl T.m_Ltake T.k_Ltake T.b_Ltake (fun σ => passAt tk σ) (pa_cons (pv 0) (pa_cons pe_int pa_nil))) (fun _ _ => rfl)))
      (pss_one (ps_ret (pe_op op_addU (pe_lst (pa_cons pe_int (pa_cons pe_int (pa_cons pe_int (pa_cons pe_int (pa_cons (pv 3) pa_nil)))))) (pe_op op_rep (pe_lst (pa_cons pe_int pa_nil)) (pe_op op_addU (pv 3) pe_int)))))) pss_nil)
      (pss_cons (ps_if (pt_cmpR (op_eqU (hr.units)) (pv 1) pe_int (nomark _)) (pss_one (ps_ret (pe_slice sl_U (pe_lst (pa_cons pe_int (pa_cons pe_int (pa_cons pe_int (pa_cons (pe_ix ix_seq (pe_lst (pa_cons (pe_op op_addU pe_int (pv 2)) (pa_cons (pe_op op_sub pe_int (pv 2)) pa_nil))) (pe_callS G_Ltake (hr.mono (by decide)) rfl T.m_Ltake T.k_Ltake T.b_Ltake (fun σ => passAt tk σ) (pa_cons (pv 0) (pa_cons pe_int pa_nil))) (fun _ _ => rfl)) (pa_cons pe_int pa_nil)))))) po_none (po_some (pe_op op_addU pe_int (pe_callS G_Ltake (hr.mono (by decide)) rfl T.m_Ltake T.k_Ltake T.b_Ltake (fun σ => passAt tk σ) (pa_cons (pv 0) (pa_cons pe_int pa_nil)))))))) pss_nil)
      (pss_cons (ps_if (pt_cmpR (op_eqU (hr.units)) (pv 1) pe_int (nomark _)) (pss_cons (ps_set (i := 4) sc_Ledge.nd rfl (Or.inl rfl) (pe_op op_addU pe_int (pe_callS G_Ltake (hr.mono (by decide)) rfl T.m_Ltake T.k_Ltake T.b_Ltake (fun σ => passAt tk σ) (pa_cons (pv 0) (pa_cons pe_int pa_nil)))))
      (pss_one (ps_ret (pe_slice sl_U (pe_lst (pa_cons pe_int (pa_cons pe_int (pa_cons (pv 4) (pa_cons (pe_ix ix_seq (pe_lst (pa_cons pe_int (pa_cons pe_int pa_nil))) (pe_callS G_Ltake (hr.mono (by decide)) rfl T.m_Ltake T.k_Ltake T.b_Ltake (fun σ => passAt tk σ) (pa_cons (pv 0) (pa_cons pe_int pa_nil))) (fun _ _ => rfl)) (pa_cons (pe_op op_addU (pe_op op_sub (pv 4) pe_int) (pv 2)) (pa_cons pe_int pa_nil))))))) po_none (po_some (pe_op op_addU pe_int (pe_callS G_Ltake (hr.mono (by decide)) rfl T.m_Ltake T.k_Ltake T.b_Ltake (fun σ => passAt tk σ) (pa_cons (pv 0) (pa_cons pe_int pa_nil))))))))) pss_nil)
      (pss_cons (ps_set (i := 3) sc_Ledge.nd rfl (Or.inl rfl) (pe_op op_addU pe_int (pe_callS G_Ltake (hr.mono (by decide)) rfl T.m_Ltake T.k_Ltake T.b_Ltake (fun σ => passAt tk σ) (pa_cons (pv 0) (pa_cons pe_int pa_nil)))))
      (pss_one (ps_ret (pe_op op_addU (pe_op op_addU (pe_op op_addU (pe_lst (pa_cons (pv 3) pa_nil)) (pe_op op_rep (pe_lst (pa_cons pe_int (pa_cons pe_int pa_nil))) (pv 3))) (pe_lst (pa_cons pe_int (pa_cons (pe_op op_addU (pe_op op_sub (pv 3) pe_int) (pv 2)) pa_nil)))) (pe_op op_rep (pe_lst (pa_cons pe_int pa_nil)) (pe_op op_sub (pv 3) pe_int)))))))))))))))

theorem sc_law : FnScope nm_law ["_law_script"] (defScope st_law) := ⟨rfl, rfl, rfl, by decide +kernel, rfl, by decide +kernel, by decide +kernel⟩
theorem ok_law {P : Program} {w : World} {base : Heap} {Z : Adr} (T : Top Z) (G_Lsheet : FnOk P w Z.K Z.mg base (L2.CX P w) 17 Z.f_Lsheet Z.d_Lsheet ["_law_state", "_law_most"] (sp_Lsheet Z)) (G_Lbent : FnOk P w Z.K Z.mg base (L2.CX P w) 3 Z.f_Lbent Z.d_Lbent ["_law_state", "_law_sheet_here"] (sp_Lbent Z)) (G_Ltake : FnOk P w Z.K Z.mg base (L2.CX P w) 2 Z.f_Ltake Z.d_Ltake ["_law_state", "_law_many"] (sp_Ltake Z)) (G_Ledge : FnOk P w Z.K Z.mg base (L2.CX P w) 3 Z.f_Ledge Z.d_Ledge ["_law_state"] (sp_Ledge Z)) (G_Lwrong : FnOk P w Z.K Z.mg base (L2.CX P w) 2 Z.f_Lwrong Z.d_Lwrong ["_law_sheet_here"] (sp_Lwrong Z)) (G_wrong : FnOk P w Z.K Z.mg base (L2.CX P w) 19 Z.f_wrong Z.d_wrong ["numbers"] (sp_wrong Z)) (G_Lheard : FnOk P w Z.K Z.mg base (L2.CX P w) 20 Z.f_Lheard Z.d_Lheard ["_law_way", "_law_sheet_here"] (sp_Lheard Z)) : FnOk P w Z.K Z.mg base (L2.CX P w) 21 Z.f_law Z.d_law ["_law_script"] (sp_law Z) := by
  refine FnOk.mono (T.F_law.okX (k := 20) sc_law (fun vs H Q E h => ?_) (fun cdv A outer s H vs Q E hr h => ?_)) (by decide)
  · obtain ⟨a0, rfl, _⟩ := h; rfl
  · obtain ⟨a0, rfl, h⟩ := h
    have tk : Takes (cxOf (L2.CX P w) P w Z.K Z.mg base nm_law "law" (defScope st_law) Z.f_law cdv A outer s H E) (fun cls d _ H => E cls d H) := takes_of rfl rfl rfl rfl
    have po : PassesOwn (model P w) (cxOf (L2.CX P w) P w Z.K Z.mg base nm_law "law" (defScope st_law) Z.f_law cdv A outer s H E).A (cxOf (L2.CX P w) P w Z.K Z.mg base nm_law "law" (defScope st_law) Z.f_law cdv A outer s H E).env (cxOf (L2.CX P w) P w Z.K Z.mg base nm_law "law" (defScope st_law) Z.f_law cdv A outer s H E).xe := passes_of rfl
    refine ⟨t_law Z (fun cls d _ H => E cls d H), ?_, rd_law T h⟩
    exact (pss_cons (ps_set (i := 1) sc_law.nd rfl (Or.inl rfl) (pe_lst (pa_cons (pv 0) (pa_cons pe_int (pa_cons pe_int pa_nil)))))
      (pss_cons (ps_set (i := 2) sc_law.nd rfl (Or.inl rfl) (pe_callS G_Lsheet (hr.mono (by decide)) rfl T.m_Lsheet T.k_Lsheet T.b_Lsheet (fun σ => passAt tk σ) (pa_cons (pv 1) (pa_cons pe_int pa_nil))))
      (pss_cons (ps_for po rfl (pi_range1 rfl T.n_range (pa_cons pe_int pa_nil)) (pg_name (i := 3) sc_law.nd rfl (Or.inl rfl)) (pss_cons (ps_set (i := 4) sc_law.nd rfl (Or.inl rfl) (pe_callS G_Lbent (hr.mono (by decide)) rfl T.m_Lbent T.k_Lbent T.b_Lbent (fun σ => passAt tk σ) (pa_cons (pv 1) (pa_cons (pv 2) pa_nil))))
      (C8.pss_cut (ps_if (pt_cmpR (op_eqU (hr.units)) (pv 3) pe_int (nomark _)) (pss_one (ps_set (i := 4) sc_law.nd rfl (Or.inl rfl) (pe_slice sl_U (pv 4) po_none (po_some (pe_callS G_Ltake (hr.mono (by decide)) rfl T.m_Ltake T.k_Ltake T.b_Ltake (fun σ => passAt tk σ) (pa_cons (pv 1) (pa_cons pe_int pa_nil))))))) pss_nil)
      (C8.pss_cut (ps_if (pt_cmpR op_gt (pv 3) pe_int (nomark _)) (pss_one (ps_set (i := 4) sc_law.nd rfl (Or.inl rfl) (pe_callS G_Ledge (hr.mono (by decide)) rfl T.m_Ledge T.k_Ledge T.b_Ledge (fun σ => passAt tk σ) (pa_cons (pv 1) pa_nil)))) pss_nil)
      (pss_cons (ps_set (i := 5) sc_law.nd rfl (Or.inl rfl) (pe_callS G_Lwrong (hr.mono (by decide)) rfl T.m_Lwrong T.k_Lwrong T.b_Lwrong (fun σ => passAt tk σ) (pa_cons (pv 4) pa_nil)))
      (pss_cons (ps_set (i := 6) sc_law.nd rfl (Or.inl rfl) (pe_callTy call_list' (by rfl) T.n_list (by decide +kernel) (pa_cons (pv 4) pa_nil)))
      (pss_cons (ps_set (i := 7) sc_law.nd rfl (Or.inl rfl) (pe_callS G_wrong (hr.mono (by decide)) rfl T.m_wrong T.k_wrong T.b_wrong (fun σ => passAt tk σ) (pa_cons (pv 6) pa_nil)))
      (pss_cons (ps_if (PW.pt (pw_or (pt_cmpR (op_neU (hr.units)) (pv 7) (pv 5) (nomark _)) (pw_or1 (PW.pt (pw_and (pt_cmpR op_notU (pv 5) pe_non (nomark _)) (pw_and1 (PW.pt (pw_or (pt_not (pt_val (pe_callB call_isi' (by rfl) T.n_isinstance (by decide +kernel) (pa_cons (pv 7) (pa_cons (pe_bltn (by rfl) T.n_tuple (by decide +kernel) rfl) pa_nil))))) (pw_or1 (pt_val (pe_callB call_isi' (by rfl) T.n_isinstance (by decide +kernel) (pa_cons (pe_ix ix_seq (pv 7) pe_int (fun _ _ => rfl)) (pa_cons (pe_bltn (by rfl) T.n_bool (by decide +kernel) rfl) pa_nil))))))))))))) (pss_one (ps_ret pe_bl)) pss_nil)
      (C8.pss_cut (ps_if (pt_cmpR op_isU (pv 5) pe_non (nomark _)) (pss_one (ps_set (i := 5) sc_law.nd rfl (Or.inl rfl) (pe_tup (pa_cons pe_non (pa_cons pe_non pa_nil))))) pss_nil)
      (pss_cons (ps_if (PW.pt (pw_or (pt_cmpR (op_neU (hr.units)) (pe_callS G_Lheard (hr.mono (by decide)) rfl T.m_Lheard T.k_Lheard T.b_Lheard (fun σ => passAt tk σ) (pa_cons pe_int (pa_cons (pv 6) pa_nil))) (pe_lst (pa_cons pe_bl (pa_cons (pe_ix ix_seq (pv 5) pe_int (fun _ _ => rfl)) (pa_cons (pe_ix ix_seq (pv 5) pe_int (fun _ _ => rfl)) pa_nil)))) (nomark _)) (pw_or1 (pt_cmpR (op_neU (hr.units)) (pe_callS G_Lheard (hr.mono (by decide)) rfl T.m_Lheard T.k_Lheard T.b_Lheard (fun σ => passAt tk σ) (pa_cons pe_int (pa_cons (pv 6) pa_nil))) (pe_lst (pa_cons pe_bl (pa_cons (pe_ix ix_seq (pv 5) pe_int (fun _ _ => rfl)) (pa_cons (pe_ix ix_seq (pv 5) pe_int (fun _ _ => rfl)) pa_nil)))) (nomark _))))) (pss_one (ps_ret pe_bl)) pss_nil)
      (pss_one (ps_if (pt_cmpR (op_neU (hr.units)) (pv 6) (pv 4) (nomark _)) (pss_one (ps_ret pe_bl)) pss_nil))))))))))))
      (pss_one (ps_ret (pe_cmpR op_isU (pe_callS G_wrong (hr.mono (by decide)) rfl T.m_wrong T.k_wrong T.b_wrong (fun σ => passAt tk σ) (pa_cons (pv 2) pa_nil)) pe_non (nomark _)))))))

theorem grp_node_in {P : Program} {w : World} {base : Heap} {Z : Adr} (T : Top Z) (G_NoSheet_init : FnOk P w Z.K Z.mg base (L2.CX P w) 1 Z.f_NoSheet_init Z.d_NoSheet_init ["self", "place", "word"] (sp_NoSheet_init Z)) (G_Look_within : FnOk P w Z.K Z.mg base (L2.CX P w) 4 Z.f_Look_within Z.d_Look_within ["self", "low", "high"] (sp_Look_within Z)) (G_own_numbers : FnOk P w Z.K Z.mg base (L2.CX P w) 5 Z.f_own_numbers Z.d_own_numbers ["look", "heads", "boxes", "kind"] (sp_own_numbers Z)) : ∀ n : Nat, FnOk P w Z.K Z.mg base (L2.CX P w) (5 + n) Z.f_node_in Z.d_node_in ["look", "heads", "boxes", "deep"] (sp_node_in Z n)
  | 0 => fn_none fun vs H Q E h => by obtain ⟨_, _, _, _, rfl, h⟩ := h; exact no_node_in h
  | n + 1 => by
    have ih := grp_node_in (P := P) (w := w) (base := base) T G_NoSheet_init G_Look_within G_own_numbers n
    have G_node_in := ih
    exact ok_node_in T n G_NoSheet_init G_Look_within G_own_numbers G_node_in

theorem grp_Lnode {P : Program} {w : World} {base : Heap} {Z : Adr} (T : Top Z) (G_Lhead : FnOk P w Z.K Z.mg base (L2.CX P w) 3 Z.f_Lhead Z.d_Lhead ["_law_state", "_law_heads_here", "_law_boxes"] (sp_Lhead Z)) (G_Lleaf : FnOk P w Z.K Z.mg base (L2.CX P w) 4 Z.f_Lleaf Z.d_Lleaf ["_law_state", "_law_boxes"] (sp_Lleaf Z)) : ∀ n : Nat, FnOk P w Z.K Z.mg base (L2.CX P w) (4 + n) Z.f_Lnode Z.d_Lnode ["_law_state", "_law_heads_here", "_law_boxes", "_law_deep", "_law_room"] (sp_Lnode Z n)
  | 0 => fn_none fun vs H Q E h => by obtain ⟨_, _, _, _, _, rfl, h⟩ := h; exact no_Lnode h
  | n + 1 => by
    have ih := grp_Lnode (P := P) (w := w) (base := base) T G_Lhead G_Lleaf n
    have G_Lnode := ih
    exact ok_Lnode T n G_Lhead G_Lleaf G_Lnode

theorem grp_nodes_in {P : Program} {w : World} {base : Heap} {Z : Adr} (T : Top Z)  : ∀ n : Nat, FnOk P w Z.K Z.mg base (L2.CX P w) (0 + n) Z.f_nodes_in Z.d_nodes_in ["node"] (sp_nodes_in Z n)
  | 0 => fn_none fun vs H Q E h => by obtain ⟨_, rfl, h⟩ := h; exact no_nodes_in h
  | n + 1 => by
    have ih := grp_nodes_in (P := P) (w := w) (base := base) T  n
    have G_nodes_in := ih
    exact ok_nodes_in T n G_nodes_in
def sp_goal (K : PySem.W.Frag) : Sp := fun vs H Q _ => ∃ (a : Addr) (ns : List Int), vs = [.ref a] ∧ Only H ∧ Scr K H a ns ∧ ns.length ≤ 63 ∧ ∀ H', Q (.bl true) H'
theorem goal_law (Z : Adr) {vs : List V} {H : Hp} {Q : VK} {E : XK} (h : sp_goal Z.K vs H Q E) : sp_law Z vs H Q E := by
  obtain ⟨a, ns, rfl, h⟩ := h
  exact ⟨_, rfl, a, ns, rfl, h⟩
/-! ### the top, and the law's own head -/
theorem all_mk {l : PySem.W.OpenLaw} {w : World} {K : PySem.W.Frag} {h : Heap} {mg : Str → Option Value} {fa : Addr} (X : K.In h) (G : h.Ns mainGlobals mg) (hfa : mg "law" = some (.ref fa))
    {tk_NUMBER : Tok}
    {tk_GET : Tok}
    {tk_SET : Tok}
    {tk_ALL : Tok}
    {tk_PICK : Tok}
    {tk_LOOP : Tok}
    {tk_CALL : Tok}
    {tk_FAIL : Tok}
    {tk_PUT : Tok}
    {tk_SIZE : Tok}
    {tk_NEW : Tok}
    {tk_MOST_FUNCTIONS : Tok}
    {tk_MOST_PARAMS : Tok}
    {tk_MOST_BOXES : Tok}
    {tk_MOST_PARTS : Tok}
    {tk_MOST_DEEP : Tok}
    {c_Look : Addr}
    {oc_NoSheet_init kV_NoSheet_init dc_NoSheet_init pm_NoSheet_init cd_NoSheet_init ct_NoSheet_init : Value} {od_NoSheet_init an_NoSheet_init : Option Addr} {sl_NoSheet_init : Array (Option Value)} {f_NoSheet_init : Addr}
    {oc_parts_of kV_parts_of dc_parts_of pm_parts_of cd_parts_of ct_parts_of : Value} {od_parts_of an_parts_of : Option Addr} {sl_parts_of : Array (Option Value)} {f_parts_of : Addr}
    {oc_Look_init kV_Look_init dc_Look_init pm_Look_init cd_Look_init ct_Look_init : Value} {od_Look_init an_Look_init : Option Addr} {sl_Look_init : Array (Option Value)} {f_Look_init : Addr}
    {oc_Look_due kV_Look_due dc_Look_due pm_Look_due cd_Look_due ct_Look_due : Value} {od_Look_due an_Look_due : Option Addr} {sl_Look_due : Array (Option Value)} {f_Look_due : Addr}
    {oc_Look_within kV_Look_within dc_Look_within pm_Look_within cd_Look_within ct_Look_within : Value} {od_Look_within an_Look_within : Option Addr} {sl_Look_within : Array (Option Value)} {f_Look_within : Addr}
    {oc_heads_in kV_heads_in dc_heads_in pm_heads_in cd_heads_in ct_heads_in : Value} {od_heads_in an_heads_in : Option Addr} {sl_heads_in : Array (Option Value)} {f_heads_in : Addr}
    {oc_own_numbers kV_own_numbers dc_own_numbers pm_own_numbers cd_own_numbers ct_own_numbers : Value} {od_own_numbers an_own_numbers : Option Addr} {sl_own_numbers : Array (Option Value)} {f_own_numbers : Addr}
    {oc_node_in kV_node_in dc_node_in pm_node_in cd_node_in ct_node_in : Value} {od_node_in an_node_in : Option Addr} {sl_node_in : Array (Option Value)} {f_node_in : Addr}
    {oc_functions kV_functions dc_functions pm_functions cd_functions ct_functions : Value} {od_functions an_functions : Option Addr} {sl_functions : Array (Option Value)} {f_functions : Addr}
    {oc_wrong kV_wrong dc_wrong pm_wrong cd_wrong ct_wrong : Value} {od_wrong an_wrong : Option Addr} {sl_wrong : Array (Option Value)} {f_wrong : Addr}
    {oc_nodes_in kV_nodes_in dc_nodes_in pm_nodes_in cd_nodes_in ct_nodes_in : Value} {od_nodes_in an_nodes_in : Option Addr} {sl_nodes_in : Array (Option Value)} {f_nodes_in : Addr}
    {oc_nodes kV_nodes dc_nodes pm_nodes cd_nodes ct_nodes : Value} {od_nodes an_nodes : Option Addr} {sl_nodes : Array (Option Value)} {f_nodes : Addr}
    {oc_Lmixed kV_Lmixed dc_Lmixed pm_Lmixed cd_Lmixed ct_Lmixed : Value} {od_Lmixed an_Lmixed : Option Addr} {sl_Lmixed : Array (Option Value)} {f_Lmixed : Addr}
    {oc_Ltake kV_Ltake dc_Ltake pm_Ltake cd_Ltake ct_Ltake : Value} {od_Ltake an_Ltake : Option Addr} {sl_Ltake : Array (Option Value)} {f_Ltake : Addr}
    {oc_Lheads kV_Lheads dc_Lheads pm_Lheads cd_Lheads ct_Lheads : Value} {od_Lheads an_Lheads : Option Addr} {sl_Lheads : Array (Option Value)} {f_Lheads : Addr}
    {oc_Lnumber kV_Lnumber dc_Lnumber pm_Lnumber cd_Lnumber ct_Lnumber : Value} {od_Lnumber an_Lnumber : Option Addr} {sl_Lnumber : Array (Option Value)} {f_Lnumber : Addr}
    {oc_Lleaf kV_Lleaf dc_Lleaf pm_Lleaf cd_Lleaf ct_Lleaf : Value} {od_Lleaf an_Lleaf : Option Addr} {sl_Lleaf : Array (Option Value)} {f_Lleaf : Addr}
    {oc_Lhead kV_Lhead dc_Lhead pm_Lhead cd_Lhead ct_Lhead : Value} {od_Lhead an_Lhead : Option Addr} {sl_Lhead : Array (Option Value)} {f_Lhead : Addr}
    {oc_Lnode kV_Lnode dc_Lnode pm_Lnode cd_Lnode ct_Lnode : Value} {od_Lnode an_Lnode : Option Addr} {sl_Lnode : Array (Option Value)} {f_Lnode : Addr}
    {oc_Lsheet kV_Lsheet dc_Lsheet pm_Lsheet cd_Lsheet ct_Lsheet : Value} {od_Lsheet an_Lsheet : Option Addr} {sl_Lsheet : Array (Option Value)} {f_Lsheet : Addr}
    {oc_Lown kV_Lown dc_Lown pm_Lown cd_Lown ct_Lown : Value} {od_Lown an_Lown : Option Addr} {sl_Lown : Array (Option Value)} {f_Lown : Addr}
    {oc_Lparts kV_Lparts dc_Lparts pm_Lparts cd_Lparts ct_Lparts : Value} {od_Lparts an_Lparts : Option Addr} {sl_Lparts : Array (Option Value)} {f_Lparts : Addr}
    {oc_Lhead_wrong kV_Lhead_wrong dc_Lhead_wrong pm_Lhead_wrong cd_Lhead_wrong ct_Lhead_wrong : Value} {od_Lhead_wrong an_Lhead_wrong : Option Addr} {sl_Lhead_wrong : Array (Option Value)} {f_Lhead_wrong : Addr}
    {oc_Lwrong kV_Lwrong dc_Lwrong pm_Lwrong cd_Lwrong ct_Lwrong : Value} {od_Lwrong an_Lwrong : Option Addr} {sl_Lwrong : Array (Option Value)} {f_Lwrong : Addr}
    {oc_Lbent kV_Lbent dc_Lbent pm_Lbent cd_Lbent ct_Lbent : Value} {od_Lbent an_Lbent : Option Addr} {sl_Lbent : Array (Option Value)} {f_Lbent : Addr}
    {oc_Lheard kV_Lheard dc_Lheard pm_Lheard cd_Lheard ct_Lheard : Value} {od_Lheard an_Lheard : Option Addr} {sl_Lheard : Array (Option Value)} {f_Lheard : Addr}
    {oc_Ledge kV_Ledge dc_Ledge pm_Ledge cd_Ledge ct_Ledge : Value} {od_Ledge an_Ledge : Option Addr} {sl_Ledge : Array (Option Value)} {f_Ledge : Addr}
    {oc_law kV_law dc_law pm_law cd_law ct_law : Value} {od_law an_law : Option Addr} {sl_law : Array (Option Value)} {f_law : Addr}
    {c_ChainError : Addr}
    {c_NoSheet : Addr}
    {c_NoText : Addr}
    {c_NoCode : Addr}
    {c_NoRow : Addr}
    {c_NoName : Addr}
    {xnm_NoSheet xq_NoSheet : Str} {xN_NoSheet : Addr} {xbs_NoSheet : List Value} {xsn_NoSheet : List Str} {xsub_NoSheet : List Value} {xab_NoSheet : Bool} {xcol_NoSheet : Option Bool} {xdd_NoSheet : Option Addr} {x0_NoSheet x1_NoSheet x2_NoSheet x3_NoSheet x5_NoSheet : Option Value}
    (i_NUMBER : PySem.W.nsIn K mainGlobals "NUMBER" = some (some (.int 0 tk_NUMBER)))
    (i_GET : PySem.W.nsIn K mainGlobals "GET" = some (some (.int 1 tk_GET)))
    (i_SET : PySem.W.nsIn K mainGlobals "SET" = some (some (.int 2 tk_SET)))
    (i_ALL : PySem.W.nsIn K mainGlobals "ALL" = some (some (.int 3 tk_ALL)))
    (i_PICK : PySem.W.nsIn K mainGlobals "PICK" = some (some (.int 4 tk_PICK)))
    (i_LOOP : PySem.W.nsIn K mainGlobals "LOOP" = some (some (.int 5 tk_LOOP)))
    (i_CALL : PySem.W.nsIn K mainGlobals "CALL" = some (some (.int 6 tk_CALL)))
    (i_FAIL : PySem.W.nsIn K mainGlobals "FAIL" = some (some (.int 7 tk_FAIL)))
    (i_PUT : PySem.W.nsIn K mainGlobals "PUT" = some (some (.int 17 tk_PUT)))
    (i_SIZE : PySem.W.nsIn K mainGlobals "SIZE" = some (some (.int 18 tk_SIZE)))
    (i_NEW : PySem.W.nsIn K mainGlobals "NEW" = some (some (.int 19 tk_NEW)))
    (i_MOST_FUNCTIONS : PySem.W.nsIn K mainGlobals "MOST_FUNCTIONS" = some (some (.int 16 tk_MOST_FUNCTIONS)))
    (i_MOST_PARAMS : PySem.W.nsIn K mainGlobals "MOST_PARAMS" = some (some (.int 4 tk_MOST_PARAMS)))
    (i_MOST_BOXES : PySem.W.nsIn K mainGlobals "MOST_BOXES" = some (some (.int 12 tk_MOST_BOXES)))
    (i_MOST_PARTS : PySem.W.nsIn K mainGlobals "MOST_PARTS" = some (some (.int 12 tk_MOST_PARTS)))
    (i_MOST_DEEP : PySem.W.nsIn K mainGlobals "MOST_DEEP" = some (some (.int 10 tk_MOST_DEEP)))
    (z_ValueError : PySem.W.nsIn K mainGlobals "ValueError" = some none)
    (z_abs : PySem.W.nsIn K mainGlobals "abs" = some none)
    (z_bool : PySem.W.nsIn K mainGlobals "bool" = some none)
    (z_int : PySem.W.nsIn K mainGlobals "int" = some none)
    (z_isinstance : PySem.W.nsIn K mainGlobals "isinstance" = some none)
    (z_len : PySem.W.nsIn K mainGlobals "len" = some none)
    (z_list : PySem.W.nsIn K mainGlobals "list" = some none)
    (z_range : PySem.W.nsIn K mainGlobals "range" = some none)
    (z_tuple : PySem.W.nsIn K mainGlobals "tuple" = some none)
    (a_ChainError : PySem.W.nsIn K mainGlobals "ChainError" = some (some (.ref c_ChainError)))
    (eb_ChainError : PySem.W.subIn K (.ref c_ChainError) (.type "BaseException") = some true)
    (tt_ChainError : PySem.W.typeIn K (.ref c_ChainError) = some (.type "type"))
    (ic_ChainError : PySem.W.isClsIn K c_ChainError = true)
    (ri_ChainError : PySem.W.readsIn K c_ChainError (.type "type") = true)
    (rs_ChainError : PySem.W.specialIn K (.ref c_ChainError) "__getattribute__" = some (some (.builtin "type.__getattribute__")))
    (rv_ChainError : PySem.W.findCls K (.ref c_ChainError) (.type "type") "__init__" = some (.val (.builtin "ValueError.__init__")))
    (a_NoSheet : PySem.W.nsIn K mainGlobals "NoSheet" = some (some (.ref c_NoSheet)))
    (xl_NoSheet : K.lookup c_NoSheet = some (excClassObj xnm_NoSheet xq_NoSheet c_NoSheet xN_NoSheet xbs_NoSheet [.ref c_ChainError, .type "ValueError", .type "Exception", .type "BaseException", .type "object"] true xsn_NoSheet xsub_NoSheet xab_NoSheet xcol_NoSheet xdd_NoSheet x0_NoSheet x1_NoSheet x2_NoSheet x3_NoSheet x5_NoSheet "ValueError.__new__"))
    (sa_NoSheet : PySem.W.findIn K (.ref c_NoSheet) "__setattr__" = some (some (.builtin "object.__setattr__")))
    (ga_NoSheet : PySem.W.findIn K (.ref c_NoSheet) "__getattribute__" = some (some (.builtin "BaseException.__getattribute__")))
    (gg_NoSheet : PySem.W.findIn K (.ref c_NoSheet) "__getattr__" = some none)
    (at_NoSheet_init : PySem.W.findIn K (.ref c_NoSheet) "__init__" = some (some (.ref f_NoSheet_init)))
    (tf_NoSheet_init : PySem.W.typeIn K (.ref f_NoSheet_init) = some (.type "function"))
    (kc_NoSheet : PySem.W.keepIn K (.ref c_NoSheet) = true)
    (hd_NoSheet : PySem.W.hasDictIn K c_NoSheet = true)
    (no_NoSheet_place : PySem.W.findIn K (.ref c_NoSheet) "place" = some none)
    (no_NoSheet_word : PySem.W.findIn K (.ref c_NoSheet) "word" = some none)
    (eb_NoSheet : PySem.W.subIn K (.ref c_NoSheet) (.type "BaseException") = some true)
    (tt_NoSheet : PySem.W.typeIn K (.ref c_NoSheet) = some (.type "type"))
    (ic_NoSheet : PySem.W.isClsIn K c_NoSheet = true)
    (a_NoText : PySem.W.nsIn K mainGlobals "NoText" = some (some (.ref c_NoText)))
    (eb_NoText : PySem.W.subIn K (.ref c_NoText) (.type "BaseException") = some true)
    (tt_NoText : PySem.W.typeIn K (.ref c_NoText) = some (.type "type"))
    (ic_NoText : PySem.W.isClsIn K c_NoText = true)
    (a_NoCode : PySem.W.nsIn K mainGlobals "NoCode" = some (some (.ref c_NoCode)))
    (eb_NoCode : PySem.W.subIn K (.ref c_NoCode) (.type "BaseException") = some true)
    (tt_NoCode : PySem.W.typeIn K (.ref c_NoCode) = some (.type "type"))
    (ic_NoCode : PySem.W.isClsIn K c_NoCode = true)
    (a_NoRow : PySem.W.nsIn K mainGlobals "NoRow" = some (some (.ref c_NoRow)))
    (eb_NoRow : PySem.W.subIn K (.ref c_NoRow) (.type "BaseException") = some true)
    (tt_NoRow : PySem.W.typeIn K (.ref c_NoRow) = some (.type "type"))
    (ic_NoRow : PySem.W.isClsIn K c_NoRow = true)
    (a_NoName : PySem.W.nsIn K mainGlobals "NoName" = some (some (.ref c_NoName)))
    (eb_NoName : PySem.W.subIn K (.ref c_NoName) (.type "BaseException") = some true)
    (tt_NoName : PySem.W.typeIn K (.ref c_NoName) = some (.type "type"))
    (ic_NoName : PySem.W.isClsIn K c_NoName = true)
    (es_NoSheet_ChainError : PySem.W.subIn K (.ref c_NoSheet) (.ref c_ChainError) = some true)
    (es_NoSheet_NoSheet : PySem.W.subIn K (.ref c_NoSheet) (.ref c_NoSheet) = some true)
    (qn_ : PySem.W.specialIn K (.builtin "object.__class__") "__get__" = some (some (.builtin "getset_descriptor.__get__")))
    (qt_ : PySem.W.takesIn K (.builtin "object.__class__") = some true)
    (qa_NoSheet : PySem.W.findIn K (.ref c_NoSheet) "__getattribute__" = some (some (.builtin "BaseException.__getattribute__")))
    (qg_NoSheet : PySem.W.findIn K (.ref c_NoSheet) "__getattr__" = some none)
    (qd_NoSheet : PySem.W.hasDictIn K c_NoSheet = true)
    (qc_NoSheet : PySem.W.findIn K (.ref c_NoSheet) "__class__" = some (some (.builtin "object.__class__")))
    (qm_NoSheet : PySem.W.mroIn K c_NoSheet (.type "object") = some true)
    (kv_NoSheet : PySem.W.subIn K (.ref c_NoSheet) (.type "ValueError") = some true)
    (kr_NoSheet : PySem.W.subIn K (.ref c_NoSheet) (.ref c_NoSheet) = some true)
    (ki_NoSheet_NoCode : PySem.W.subIn K (.ref c_NoSheet) (.ref c_NoCode) = some false)
    (ki_NoSheet_NoName : PySem.W.subIn K (.ref c_NoSheet) (.ref c_NoName) = some false)
    (ki_NoSheet_NoRow : PySem.W.subIn K (.ref c_NoSheet) (.ref c_NoRow) = some false)
    (ki_NoSheet_NoSheet : PySem.W.subIn K (.ref c_NoSheet) (.ref c_NoSheet) = some true)
    (ki_NoSheet_NoText : PySem.W.subIn K (.ref c_NoSheet) (.ref c_NoText) = some false)
    (a_Look : PySem.W.nsIn K mainGlobals "Look" = some (some (.ref c_Look)))
    (pg_Look : PySem.W.plainGet K c_Look Str.empty = true)
    (hd_Look : PySem.W.hasDictIn K c_Look = true)
    (po_Look : PySem.W.plainOver K c_Look = true)
    (sa_Look : PySem.W.findIn K (.ref c_Look) "__setattr__" = some (some (.builtin "object.__setattr__")))
    (mk_Look : PySem.W.makesIn K c_Look = true)
    (kc_Look : PySem.W.keepIn K (.ref c_Look) = true)
    (at_Look_init : PySem.W.findIn K (.ref c_Look) "__init__" = some (some (.ref f_Look_init)))
    (fn_Look_init : PySem.W.isFn K (.ref f_Look_init) = true)
    (at_Look_due : PySem.W.findIn K (.ref c_Look) "due" = some (some (.ref f_Look_due)))
    (fn_Look_due : PySem.W.isFn K (.ref f_Look_due) = true)
    (at_Look_within : PySem.W.findIn K (.ref c_Look) "within" = some (some (.ref f_Look_within)))
    (fn_Look_within : PySem.W.isFn K (.ref f_Look_within) = true)
    (no_Look_numbers : PySem.W.findIn K (.ref c_Look) "numbers" = some none)
    (no_Look_place : PySem.W.findIn K (.ref c_Look) "place" = some none)
    (l_NoSheet_init : K.lookup f_NoSheet_init = some ⟨oc_NoSheet_init, od_NoSheet_init, .func (PySem.W.fnOf "__init__" "NoSheet.__init__" (defArgs st_NoSheet_init) (defBody st_NoSheet_init) (defScope st_NoSheet_init) .none kV_NoSheet_init dc_NoSheet_init pm_NoSheet_init an_NoSheet_init cd_NoSheet_init ct_NoSheet_init), sl_NoSheet_init⟩)
    (c_NoSheet_init : PySem.W.codeIn K cd_NoSheet_init "NoSheet.__init__" = true)
    (k_NoSheet_init : PySem.W.keepIn K (.ref f_NoSheet_init) = true)
    (a_parts_of : PySem.W.nsIn K mainGlobals "parts_of" = some (some (.ref f_parts_of)))
    (l_parts_of : K.lookup f_parts_of = some ⟨oc_parts_of, od_parts_of, .func (PySem.W.fnOf "parts_of" "parts_of" (defArgs st_parts_of) (defBody st_parts_of) (defScope st_parts_of) .none kV_parts_of dc_parts_of pm_parts_of an_parts_of cd_parts_of ct_parts_of), sl_parts_of⟩)
    (c_parts_of : PySem.W.codeIn K cd_parts_of "parts_of" = true)
    (k_parts_of : PySem.W.keepIn K (.ref f_parts_of) = true)
    (l_Look_init : K.lookup f_Look_init = some ⟨oc_Look_init, od_Look_init, .func (PySem.W.fnOf "__init__" "Look.__init__" (defArgs st_Look_init) (defBody st_Look_init) (defScope st_Look_init) .none kV_Look_init dc_Look_init pm_Look_init an_Look_init cd_Look_init ct_Look_init), sl_Look_init⟩)
    (c_Look_init : PySem.W.codeIn K cd_Look_init "Look.__init__" = true)
    (k_Look_init : PySem.W.keepIn K (.ref f_Look_init) = true)
    (l_Look_due : K.lookup f_Look_due = some ⟨oc_Look_due, od_Look_due, .func (PySem.W.fnOf "due" "Look.due" (defArgs st_Look_due) (defBody st_Look_due) (defScope st_Look_due) .none kV_Look_due dc_Look_due pm_Look_due an_Look_due cd_Look_due ct_Look_due), sl_Look_due⟩)
    (c_Look_due : PySem.W.codeIn K cd_Look_due "Look.due" = true)
    (k_Look_due : PySem.W.keepIn K (.ref f_Look_due) = true)
    (l_Look_within : K.lookup f_Look_within = some ⟨oc_Look_within, od_Look_within, .func (PySem.W.fnOf "within" "Look.within" (defArgs st_Look_within) (defBody st_Look_within) (defScope st_Look_within) .none kV_Look_within dc_Look_within pm_Look_within an_Look_within cd_Look_within ct_Look_within), sl_Look_within⟩)
    (c_Look_within : PySem.W.codeIn K cd_Look_within "Look.within" = true)
    (k_Look_within : PySem.W.keepIn K (.ref f_Look_within) = true)
    (a_heads_in : PySem.W.nsIn K mainGlobals "heads_in" = some (some (.ref f_heads_in)))
    (l_heads_in : K.lookup f_heads_in = some ⟨oc_heads_in, od_heads_in, .func (PySem.W.fnOf "heads_in" "heads_in" (defArgs st_heads_in) (defBody st_heads_in) (defScope st_heads_in) .none kV_heads_in dc_heads_in pm_heads_in an_heads_in cd_heads_in ct_heads_in), sl_heads_in⟩)
    (c_heads_in : PySem.W.codeIn K cd_heads_in "heads_in" = true)
    (k_heads_in : PySem.W.keepIn K (.ref f_heads_in) = true)
    (a_own_numbers : PySem.W.nsIn K mainGlobals "own_numbers" = some (some (.ref f_own_numbers)))
    (l_own_numbers : K.lookup f_own_numbers = some ⟨oc_own_numbers, od_own_numbers, .func (PySem.W.fnOf "own_numbers" "own_numbers" (defArgs st_own_numbers) (defBody st_own_numbers) (defScope st_own_numbers) .none kV_own_numbers dc_own_numbers pm_own_numbers an_own_numbers cd_own_numbers ct_own_numbers), sl_own_numbers⟩)
    (c_own_numbers : PySem.W.codeIn K cd_own_numbers "own_numbers" = true)
    (k_own_numbers : PySem.W.keepIn K (.ref f_own_numbers) = true)
    (a_node_in : PySem.W.nsIn K mainGlobals "node_in" = some (some (.ref f_node_in)))
    (l_node_in : K.lookup f_node_in = some ⟨oc_node_in, od_node_in, .func (PySem.W.fnOf "node_in" "node_in" (defArgs st_node_in) (defBody st_node_in) (defScope st_node_in) .none kV_node_in dc_node_in pm_node_in an_node_in cd_node_in ct_node_in), sl_node_in⟩)
    (c_node_in : PySem.W.codeIn K cd_node_in "node_in" = true)
    (k_node_in : PySem.W.keepIn K (.ref f_node_in) = true)
    (a_functions : PySem.W.nsIn K mainGlobals "functions" = some (some (.ref f_functions)))
    (l_functions : K.lookup f_functions = some ⟨oc_functions, od_functions, .func (PySem.W.fnOf "functions" "functions" (defArgs st_functions) (defBody st_functions) (defScope st_functions) .none kV_functions dc_functions pm_functions an_functions cd_functions ct_functions), sl_functions⟩)
    (c_functions : PySem.W.codeIn K cd_functions "functions" = true)
    (k_functions : PySem.W.keepIn K (.ref f_functions) = true)
    (a_wrong : PySem.W.nsIn K mainGlobals "wrong" = some (some (.ref f_wrong)))
    (l_wrong : K.lookup f_wrong = some ⟨oc_wrong, od_wrong, .func (PySem.W.fnOf "wrong" "wrong" (defArgs st_wrong) (defBody st_wrong) (defScope st_wrong) .none kV_wrong dc_wrong pm_wrong an_wrong cd_wrong ct_wrong), sl_wrong⟩)
    (c_wrong : PySem.W.codeIn K cd_wrong "wrong" = true)
    (k_wrong : PySem.W.keepIn K (.ref f_wrong) = true)
    (a_nodes_in : PySem.W.nsIn K mainGlobals "nodes_in" = some (some (.ref f_nodes_in)))
    (l_nodes_in : K.lookup f_nodes_in = some ⟨oc_nodes_in, od_nodes_in, .func (PySem.W.fnOf "nodes_in" "nodes_in" (defArgs st_nodes_in) (defBody st_nodes_in) (defScope st_nodes_in) .none kV_nodes_in dc_nodes_in pm_nodes_in an_nodes_in cd_nodes_in ct_nodes_in), sl_nodes_in⟩)
    (c_nodes_in : PySem.W.codeIn K cd_nodes_in "nodes_in" = true)
    (k_nodes_in : PySem.W.keepIn K (.ref f_nodes_in) = true)
    (a_nodes : PySem.W.nsIn K mainGlobals "nodes" = some (some (.ref f_nodes)))
    (l_nodes : K.lookup f_nodes = some ⟨oc_nodes, od_nodes, .func (PySem.W.fnOf "nodes" "nodes" (defArgs st_nodes) (defBody st_nodes) (defScope st_nodes) .none kV_nodes dc_nodes pm_nodes an_nodes cd_nodes ct_nodes), sl_nodes⟩)
    (c_nodes : PySem.W.codeIn K cd_nodes "nodes" = true)
    (k_nodes : PySem.W.keepIn K (.ref f_nodes) = true)
    (a_Lmixed : PySem.W.nsIn K mainGlobals "_law_mixed" = some (some (.ref f_Lmixed)))
    (l_Lmixed : K.lookup f_Lmixed = some ⟨oc_Lmixed, od_Lmixed, .func (PySem.W.fnOf "_law_mixed" "_law_mixed" (defArgs st_Lmixed) (defBody st_Lmixed) (defScope st_Lmixed) .none kV_Lmixed dc_Lmixed pm_Lmixed an_Lmixed cd_Lmixed ct_Lmixed), sl_Lmixed⟩)
    (c_Lmixed : PySem.W.codeIn K cd_Lmixed "_law_mixed" = true)
    (k_Lmixed : PySem.W.keepIn K (.ref f_Lmixed) = true)
    (a_Ltake : PySem.W.nsIn K mainGlobals "_law_take" = some (some (.ref f_Ltake)))
    (l_Ltake : K.lookup f_Ltake = some ⟨oc_Ltake, od_Ltake, .func (PySem.W.fnOf "_law_take" "_law_take" (defArgs st_Ltake) (defBody st_Ltake) (defScope st_Ltake) .none kV_Ltake dc_Ltake pm_Ltake an_Ltake cd_Ltake ct_Ltake), sl_Ltake⟩)
    (c_Ltake : PySem.W.codeIn K cd_Ltake "_law_take" = true)
    (k_Ltake : PySem.W.keepIn K (.ref f_Ltake) = true)
    (a_Lheads : PySem.W.nsIn K mainGlobals "_law_heads" = some (some (.ref f_Lheads)))
    (l_Lheads : K.lookup f_Lheads = some ⟨oc_Lheads, od_Lheads, .func (PySem.W.fnOf "_law_heads" "_law_heads" (defArgs st_Lheads) (defBody st_Lheads) (defScope st_Lheads) .none kV_Lheads dc_Lheads pm_Lheads an_Lheads cd_Lheads ct_Lheads), sl_Lheads⟩)
    (c_Lheads : PySem.W.codeIn K cd_Lheads "_law_heads" = true)
    (k_Lheads : PySem.W.keepIn K (.ref f_Lheads) = true)
    (a_Lnumber : PySem.W.nsIn K mainGlobals "_law_number" = some (some (.ref f_Lnumber)))
    (l_Lnumber : K.lookup f_Lnumber = some ⟨oc_Lnumber, od_Lnumber, .func (PySem.W.fnOf "_law_number" "_law_number" (defArgs st_Lnumber) (defBody st_Lnumber) (defScope st_Lnumber) .none kV_Lnumber dc_Lnumber pm_Lnumber an_Lnumber cd_Lnumber ct_Lnumber), sl_Lnumber⟩)
    (c_Lnumber : PySem.W.codeIn K cd_Lnumber "_law_number" = true)
    (k_Lnumber : PySem.W.keepIn K (.ref f_Lnumber) = true)
    (a_Lleaf : PySem.W.nsIn K mainGlobals "_law_leaf" = some (some (.ref f_Lleaf)))
    (l_Lleaf : K.lookup f_Lleaf = some ⟨oc_Lleaf, od_Lleaf, .func (PySem.W.fnOf "_law_leaf" "_law_leaf" (defArgs st_Lleaf) (defBody st_Lleaf) (defScope st_Lleaf) .none kV_Lleaf dc_Lleaf pm_Lleaf an_Lleaf cd_Lleaf ct_Lleaf), sl_Lleaf⟩)
    (c_Lleaf : PySem.W.codeIn K cd_Lleaf "_law_leaf" = true)
    (k_Lleaf : PySem.W.keepIn K (.ref f_Lleaf) = true)
    (a_Lhead : PySem.W.nsIn K mainGlobals "_law_head" = some (some (.ref f_Lhead)))
    (l_Lhead : K.lookup f_Lhead = some ⟨oc_Lhead, od_Lhead, .func (PySem.W.fnOf "_law_head" "_law_head" (defArgs st_Lhead) (defBody st_Lhead) (defScope st_Lhead) .none kV_Lhead dc_Lhead pm_Lhead an_Lhead cd_Lhead ct_Lhead), sl_Lhead⟩)
    (c_Lhead : PySem.W.codeIn K cd_Lhead "_law_head" = true)
    (k_Lhead : PySem.W.keepIn K (.ref f_Lhead) = true)
    (a_Lnode : PySem.W.nsIn K mainGlobals "_law_node" = some (some (.ref f_Lnode)))
    (l_Lnode : K.lookup f_Lnode = some ⟨oc_Lnode, od_Lnode, .func (PySem.W.fnOf "_law_node" "_law_node" (defArgs st_Lnode) (defBody st_Lnode) (defScope st_Lnode) .none kV_Lnode dc_Lnode pm_Lnode an_Lnode cd_Lnode ct_Lnode), sl_Lnode⟩)
    (c_Lnode : PySem.W.codeIn K cd_Lnode "_law_node" = true)
    (k_Lnode : PySem.W.keepIn K (.ref f_Lnode) = true)
    (a_Lsheet : PySem.W.nsIn K mainGlobals "_law_sheet" = some (some (.ref f_Lsheet)))
    (l_Lsheet : K.lookup f_Lsheet = some ⟨oc_Lsheet, od_Lsheet, .func (PySem.W.fnOf "_law_sheet" "_law_sheet" (defArgs st_Lsheet) (defBody st_Lsheet) (defScope st_Lsheet) .none kV_Lsheet dc_Lsheet pm_Lsheet an_Lsheet cd_Lsheet ct_Lsheet), sl_Lsheet⟩)
    (c_Lsheet : PySem.W.codeIn K cd_Lsheet "_law_sheet" = true)
    (k_Lsheet : PySem.W.keepIn K (.ref f_Lsheet) = true)
    (a_Lown : PySem.W.nsIn K mainGlobals "_law_own" = some (some (.ref f_Lown)))
    (l_Lown : K.lookup f_Lown = some ⟨oc_Lown, od_Lown, .func (PySem.W.fnOf "_law_own" "_law_own" (defArgs st_Lown) (defBody st_Lown) (defScope st_Lown) .none kV_Lown dc_Lown pm_Lown an_Lown cd_Lown ct_Lown), sl_Lown⟩)
    (c_Lown : PySem.W.codeIn K cd_Lown "_law_own" = true)
    (k_Lown : PySem.W.keepIn K (.ref f_Lown) = true)
    (a_Lparts : PySem.W.nsIn K mainGlobals "_law_parts" = some (some (.ref f_Lparts)))
    (l_Lparts : K.lookup f_Lparts = some ⟨oc_Lparts, od_Lparts, .func (PySem.W.fnOf "_law_parts" "_law_parts" (defArgs st_Lparts) (defBody st_Lparts) (defScope st_Lparts) .none kV_Lparts dc_Lparts pm_Lparts an_Lparts cd_Lparts ct_Lparts), sl_Lparts⟩)
    (c_Lparts : PySem.W.codeIn K cd_Lparts "_law_parts" = true)
    (k_Lparts : PySem.W.keepIn K (.ref f_Lparts) = true)
    (a_Lhead_wrong : PySem.W.nsIn K mainGlobals "_law_head_wrong" = some (some (.ref f_Lhead_wrong)))
    (l_Lhead_wrong : K.lookup f_Lhead_wrong = some ⟨oc_Lhead_wrong, od_Lhead_wrong, .func (PySem.W.fnOf "_law_head_wrong" "_law_head_wrong" (defArgs st_Lhead_wrong) (defBody st_Lhead_wrong) (defScope st_Lhead_wrong) .none kV_Lhead_wrong dc_Lhead_wrong pm_Lhead_wrong an_Lhead_wrong cd_Lhead_wrong ct_Lhead_wrong), sl_Lhead_wrong⟩)
    (c_Lhead_wrong : PySem.W.codeIn K cd_Lhead_wrong "_law_head_wrong" = true)
    (k_Lhead_wrong : PySem.W.keepIn K (.ref f_Lhead_wrong) = true)
    (a_Lwrong : PySem.W.nsIn K mainGlobals "_law_wrong" = some (some (.ref f_Lwrong)))
    (l_Lwrong : K.lookup f_Lwrong = some ⟨oc_Lwrong, od_Lwrong, .func (PySem.W.fnOf "_law_wrong" "_law_wrong" (defArgs st_Lwrong) (defBody st_Lwrong) (defScope st_Lwrong) .none kV_Lwrong dc_Lwrong pm_Lwrong an_Lwrong cd_Lwrong ct_Lwrong), sl_Lwrong⟩)
    (c_Lwrong : PySem.W.codeIn K cd_Lwrong "_law_wrong" = true)
    (k_Lwrong : PySem.W.keepIn K (.ref f_Lwrong) = true)
    (a_Lbent : PySem.W.nsIn K mainGlobals "_law_bent" = some (some (.ref f_Lbent)))
    (l_Lbent : K.lookup f_Lbent = some ⟨oc_Lbent, od_Lbent, .func (PySem.W.fnOf "_law_bent" "_law_bent" (defArgs st_Lbent) (defBody st_Lbent) (defScope st_Lbent) .none kV_Lbent dc_Lbent pm_Lbent an_Lbent cd_Lbent ct_Lbent), sl_Lbent⟩)
    (c_Lbent : PySem.W.codeIn K cd_Lbent "_law_bent" = true)
    (k_Lbent : PySem.W.keepIn K (.ref f_Lbent) = true)
    (a_Lheard : PySem.W.nsIn K mainGlobals "_law_heard" = some (some (.ref f_Lheard)))
    (l_Lheard : K.lookup f_Lheard = some ⟨oc_Lheard, od_Lheard, .func (PySem.W.fnOf "_law_heard" "_law_heard" (defArgs st_Lheard) (defBody st_Lheard) (defScope st_Lheard) .none kV_Lheard dc_Lheard pm_Lheard an_Lheard cd_Lheard ct_Lheard), sl_Lheard⟩)
    (c_Lheard : PySem.W.codeIn K cd_Lheard "_law_heard" = true)
    (k_Lheard : PySem.W.keepIn K (.ref f_Lheard) = true)
    (a_Ledge : PySem.W.nsIn K mainGlobals "_law_edge" = some (some (.ref f_Ledge)))
    (l_Ledge : K.lookup f_Ledge = some ⟨oc_Ledge, od_Ledge, .func (PySem.W.fnOf "_law_edge" "_law_edge" (defArgs st_Ledge) (defBody st_Ledge) (defScope st_Ledge) .none kV_Ledge dc_Ledge pm_Ledge an_Ledge cd_Ledge ct_Ledge), sl_Ledge⟩)
    (c_Ledge : PySem.W.codeIn K cd_Ledge "_law_edge" = true)
    (k_Ledge : PySem.W.keepIn K (.ref f_Ledge) = true)
    (a_law : PySem.W.nsIn K mainGlobals "law" = some (some (.ref f_law)))
    (l_law : K.lookup f_law = some ⟨oc_law, od_law, .func (PySem.W.fnOf "law" "law" (defArgs st_law) (defBody st_law) (defScope st_law) .none kV_law dc_law pm_law an_law cd_law ct_law), sl_law⟩)
    (c_law : PySem.W.codeIn K cd_law "law" = true)
    (k_law : PySem.W.keepIn K (.ref f_law) = true) :
    ∃ fd : FuncData, (∀ (s : Shared) (v : Value), BindsTo s fd ⟨[v], []⟩ [("_law_script", v)]) ∧ ∀ base : Heap, K.In base → base.Ns mainGlobals mg → ∃ Z : Adr, Z.K = K ∧ FnOk l.prog w K mg base (L2.CX l.prog w) 21 fa fd ["_law_script"] (sp_law Z) := by
  have e := hfa.symm.trans (PySem.W.mg_of X G a_law)
  cases e
  let Z : Adr := {
      K := K
      mg := mg
      t_NUMBER := tk_NUMBER
      t_GET := tk_GET
      t_SET := tk_SET
      t_ALL := tk_ALL
      t_PICK := tk_PICK
      t_LOOP := tk_LOOP
      t_CALL := tk_CALL
      t_FAIL := tk_FAIL
      t_PUT := tk_PUT
      t_SIZE := tk_SIZE
      t_NEW := tk_NEW
      t_MOST_FUNCTIONS := tk_MOST_FUNCTIONS
      t_MOST_PARAMS := tk_MOST_PARAMS
      t_MOST_BOXES := tk_MOST_BOXES
      t_MOST_PARTS := tk_MOST_PARTS
      t_MOST_DEEP := tk_MOST_DEEP
      c_Look := c_Look
      f_NoSheet_init := f_NoSheet_init
      d_NoSheet_init := PySem.W.fnOf "__init__" "NoSheet.__init__" (defArgs st_NoSheet_init) (defBody st_NoSheet_init) (defScope st_NoSheet_init) .none kV_NoSheet_init dc_NoSheet_init pm_NoSheet_init an_NoSheet_init cd_NoSheet_init ct_NoSheet_init
      f_parts_of := f_parts_of
      d_parts_of := PySem.W.fnOf "parts_of" "parts_of" (defArgs st_parts_of) (defBody st_parts_of) (defScope st_parts_of) .none kV_parts_of dc_parts_of pm_parts_of an_parts_of cd_parts_of ct_parts_of
      f_Look_init := f_Look_init
      d_Look_init := PySem.W.fnOf "__init__" "Look.__init__" (defArgs st_Look_init) (defBody st_Look_init) (defScope st_Look_init) .none kV_Look_init dc_Look_init pm_Look_init an_Look_init cd_Look_init ct_Look_init
      f_Look_due := f_Look_due
      d_Look_due := PySem.W.fnOf "due" "Look.due" (defArgs st_Look_due) (defBody st_Look_due) (defScope st_Look_due) .none kV_Look_due dc_Look_due pm_Look_due an_Look_due cd_Look_due ct_Look_due
      f_Look_within := f_Look_within
      d_Look_within := PySem.W.fnOf "within" "Look.within" (defArgs st_Look_within) (defBody st_Look_within) (defScope st_Look_within) .none kV_Look_within dc_Look_within pm_Look_within an_Look_within cd_Look_within ct_Look_within
      f_heads_in := f_heads_in
      d_heads_in := PySem.W.fnOf "heads_in" "heads_in" (defArgs st_heads_in) (defBody st_heads_in) (defScope st_heads_in) .none kV_heads_in dc_heads_in pm_heads_in an_heads_in cd_heads_in ct_heads_in
      f_own_numbers := f_own_numbers
      d_own_numbers := PySem.W.fnOf "own_numbers" "own_numbers" (defArgs st_own_numbers) (defBody st_own_numbers) (defScope st_own_numbers) .none kV_own_numbers dc_own_numbers pm_own_numbers an_own_numbers cd_own_numbers ct_own_numbers
      f_node_in := f_node_in
      d_node_in := PySem.W.fnOf "node_in" "node_in" (defArgs st_node_in) (defBody st_node_in) (defScope st_node_in) .none kV_node_in dc_node_in pm_node_in an_node_in cd_node_in ct_node_in
      f_functions := f_functions
      d_functions := PySem.W.fnOf "functions" "functions" (defArgs st_functions) (defBody st_functions) (defScope st_functions) .none kV_functions dc_functions pm_functions an_functions cd_functions ct_functions
      f_wrong := f_wrong
      d_wrong := PySem.W.fnOf "wrong" "wrong" (defArgs st_wrong) (defBody st_wrong) (defScope st_wrong) .none kV_wrong dc_wrong pm_wrong an_wrong cd_wrong ct_wrong
      f_nodes_in := f_nodes_in
      d_nodes_in := PySem.W.fnOf "nodes_in" "nodes_in" (defArgs st_nodes_in) (defBody st_nodes_in) (defScope st_nodes_in) .none kV_nodes_in dc_nodes_in pm_nodes_in an_nodes_in cd_nodes_in ct_nodes_in
      f_nodes := f_nodes
      d_nodes := PySem.W.fnOf "nodes" "nodes" (defArgs st_nodes) (defBody st_nodes) (defScope st_nodes) .none kV_nodes dc_nodes pm_nodes an_nodes cd_nodes ct_nodes
      f_Lmixed := f_Lmixed
      d_Lmixed := PySem.W.fnOf "_law_mixed" "_law_mixed" (defArgs st_Lmixed) (defBody st_Lmixed) (defScope st_Lmixed) .none kV_Lmixed dc_Lmixed pm_Lmixed an_Lmixed cd_Lmixed ct_Lmixed
      f_Ltake := f_Ltake
      d_Ltake := PySem.W.fnOf "_law_take" "_law_take" (defArgs st_Ltake) (defBody st_Ltake) (defScope st_Ltake) .none kV_Ltake dc_Ltake pm_Ltake an_Ltake cd_Ltake ct_Ltake
      f_Lheads := f_Lheads
      d_Lheads := PySem.W.fnOf "_law_heads" "_law_heads" (defArgs st_Lheads) (defBody st_Lheads) (defScope st_Lheads) .none kV_Lheads dc_Lheads pm_Lheads an_Lheads cd_Lheads ct_Lheads
      f_Lnumber := f_Lnumber
      d_Lnumber := PySem.W.fnOf "_law_number" "_law_number" (defArgs st_Lnumber) (defBody st_Lnumber) (defScope st_Lnumber) .none kV_Lnumber dc_Lnumber pm_Lnumber an_Lnumber cd_Lnumber ct_Lnumber
      f_Lleaf := f_Lleaf
      d_Lleaf := PySem.W.fnOf "_law_leaf" "_law_leaf" (defArgs st_Lleaf) (defBody st_Lleaf) (defScope st_Lleaf) .none kV_Lleaf dc_Lleaf pm_Lleaf an_Lleaf cd_Lleaf ct_Lleaf
      f_Lhead := f_Lhead
      d_Lhead := PySem.W.fnOf "_law_head" "_law_head" (defArgs st_Lhead) (defBody st_Lhead) (defScope st_Lhead) .none kV_Lhead dc_Lhead pm_Lhead an_Lhead cd_Lhead ct_Lhead
      f_Lnode := f_Lnode
      d_Lnode := PySem.W.fnOf "_law_node" "_law_node" (defArgs st_Lnode) (defBody st_Lnode) (defScope st_Lnode) .none kV_Lnode dc_Lnode pm_Lnode an_Lnode cd_Lnode ct_Lnode
      f_Lsheet := f_Lsheet
      d_Lsheet := PySem.W.fnOf "_law_sheet" "_law_sheet" (defArgs st_Lsheet) (defBody st_Lsheet) (defScope st_Lsheet) .none kV_Lsheet dc_Lsheet pm_Lsheet an_Lsheet cd_Lsheet ct_Lsheet
      f_Lown := f_Lown
      d_Lown := PySem.W.fnOf "_law_own" "_law_own" (defArgs st_Lown) (defBody st_Lown) (defScope st_Lown) .none kV_Lown dc_Lown pm_Lown an_Lown cd_Lown ct_Lown
      f_Lparts := f_Lparts
      d_Lparts := PySem.W.fnOf "_law_parts" "_law_parts" (defArgs st_Lparts) (defBody st_Lparts) (defScope st_Lparts) .none kV_Lparts dc_Lparts pm_Lparts an_Lparts cd_Lparts ct_Lparts
      f_Lhead_wrong := f_Lhead_wrong
      d_Lhead_wrong := PySem.W.fnOf "_law_head_wrong" "_law_head_wrong" (defArgs st_Lhead_wrong) (defBody st_Lhead_wrong) (defScope st_Lhead_wrong) .none kV_Lhead_wrong dc_Lhead_wrong pm_Lhead_wrong an_Lhead_wrong cd_Lhead_wrong ct_Lhead_wrong
      f_Lwrong := f_Lwrong
      d_Lwrong := PySem.W.fnOf "_law_wrong" "_law_wrong" (defArgs st_Lwrong) (defBody st_Lwrong) (defScope st_Lwrong) .none kV_Lwrong dc_Lwrong pm_Lwrong an_Lwrong cd_Lwrong ct_Lwrong
      f_Lbent := f_Lbent
      d_Lbent := PySem.W.fnOf "_law_bent" "_law_bent" (defArgs st_Lbent) (defBody st_Lbent) (defScope st_Lbent) .none kV_Lbent dc_Lbent pm_Lbent an_Lbent cd_Lbent ct_Lbent
      f_Lheard := f_Lheard
      d_Lheard := PySem.W.fnOf "_law_heard" "_law_heard" (defArgs st_Lheard) (defBody st_Lheard) (defScope st_Lheard) .none kV_Lheard dc_Lheard pm_Lheard an_Lheard cd_Lheard ct_Lheard
      f_Ledge := f_Ledge
      d_Ledge := PySem.W.fnOf "_law_edge" "_law_edge" (defArgs st_Ledge) (defBody st_Ledge) (defScope st_Ledge) .none kV_Ledge dc_Ledge pm_Ledge an_Ledge cd_Ledge ct_Ledge
      f_law := fa
      d_law := PySem.W.fnOf "law" "law" (defArgs st_law) (defBody st_law) (defScope st_law) .none kV_law dc_law pm_law an_law cd_law ct_law
      c_ChainError := c_ChainError
      c_NoSheet := c_NoSheet
      c_NoText := c_NoText
      c_NoCode := c_NoCode
      c_NoRow := c_NoRow
      c_NoName := c_NoName }
  have T : Top Z := {
      g_NUMBER := PySem.W.mg_of X G i_NUMBER
      g_GET := PySem.W.mg_of X G i_GET
      g_SET := PySem.W.mg_of X G i_SET
      g_ALL := PySem.W.mg_of X G i_ALL
      g_PICK := PySem.W.mg_of X G i_PICK
      g_LOOP := PySem.W.mg_of X G i_LOOP
      g_CALL := PySem.W.mg_of X G i_CALL
      g_FAIL := PySem.W.mg_of X G i_FAIL
      g_PUT := PySem.W.mg_of X G i_PUT
      g_SIZE := PySem.W.mg_of X G i_SIZE
      g_NEW := PySem.W.mg_of X G i_NEW
      g_MOST_FUNCTIONS := PySem.W.mg_of X G i_MOST_FUNCTIONS
      g_MOST_PARAMS := PySem.W.mg_of X G i_MOST_PARAMS
      g_MOST_BOXES := PySem.W.mg_of X G i_MOST_BOXES
      g_MOST_PARTS := PySem.W.mg_of X G i_MOST_PARTS
      g_MOST_DEEP := PySem.W.mg_of X G i_MOST_DEEP
      n_ValueError := PySem.W.mg_none_of X G z_ValueError
      n_abs := PySem.W.mg_none_of X G z_abs
      n_bool := PySem.W.mg_none_of X G z_bool
      n_int := PySem.W.mg_none_of X G z_int
      n_isinstance := PySem.W.mg_none_of X G z_isinstance
      n_len := PySem.W.mg_none_of X G z_len
      n_list := PySem.W.mg_none_of X G z_list
      n_range := PySem.W.mg_none_of X G z_range
      n_tuple := PySem.W.mg_none_of X G z_tuple
      mt_Look_due := ⟨at_Look_due, fn_Look_due, k_Look_due⟩
      mt_Look_within := ⟨at_Look_within, fn_Look_within, k_Look_within⟩
      na_Look_numbers := no_Look_numbers
      na_Look_place := no_Look_place
      g_Look := PySem.W.mg_of X G a_Look
      cl_Look := ⟨pg_Look, hd_Look, po_Look, sa_Look⟩
      M_Look := ⟨mk_Look, at_Look_init, fn_Look_init, kc_Look⟩
      F_NoSheet_init := fun_mk (st := st_NoSheet_init) l_NoSheet_init c_NoSheet_init k_NoSheet_init
      b_NoSheet_init := (fun_mk (st := st_NoSheet_init) l_NoSheet_init c_NoSheet_init k_NoSheet_init).binds (ps := ["self", "place", "word"]) fun _ _ _ _ _ _ us hl => match us, hl with | [_, _, _], _ => rfl
      m_parts_of := PySem.W.mg_of X G a_parts_of
      F_parts_of := fun_mk (st := st_parts_of) l_parts_of c_parts_of k_parts_of
      b_parts_of := (fun_mk (st := st_parts_of) l_parts_of c_parts_of k_parts_of).binds (ps := ["kind"]) fun _ _ _ _ _ _ us hl => match us, hl with | [_], _ => rfl
      F_Look_init := fun_mk (st := st_Look_init) l_Look_init c_Look_init k_Look_init
      b_Look_init := (fun_mk (st := st_Look_init) l_Look_init c_Look_init k_Look_init).binds (ps := ["self", "numbers"]) fun _ _ _ _ _ _ us hl => match us, hl with | [_, _], _ => rfl
      F_Look_due := fun_mk (st := st_Look_due) l_Look_due c_Look_due k_Look_due
      b_Look_due := (fun_mk (st := st_Look_due) l_Look_due c_Look_due k_Look_due).binds (ps := ["self"]) fun _ _ _ _ _ _ us hl => match us, hl with | [_], _ => rfl
      F_Look_within := fun_mk (st := st_Look_within) l_Look_within c_Look_within k_Look_within
      b_Look_within := (fun_mk (st := st_Look_within) l_Look_within c_Look_within k_Look_within).binds (ps := ["self", "low", "high"]) fun _ _ _ _ _ _ us hl => match us, hl with | [_, _, _], _ => rfl
      m_heads_in := PySem.W.mg_of X G a_heads_in
      F_heads_in := fun_mk (st := st_heads_in) l_heads_in c_heads_in k_heads_in
      b_heads_in := (fun_mk (st := st_heads_in) l_heads_in c_heads_in k_heads_in).binds (ps := ["look"]) fun _ _ _ _ _ _ us hl => match us, hl with | [_], _ => rfl
      m_own_numbers := PySem.W.mg_of X G a_own_numbers
      F_own_numbers := fun_mk (st := st_own_numbers) l_own_numbers c_own_numbers k_own_numbers
      b_own_numbers := (fun_mk (st := st_own_numbers) l_own_numbers c_own_numbers k_own_numbers).binds (ps := ["look", "heads", "boxes", "kind"]) fun _ _ _ _ _ _ us hl => match us, hl with | [_, _, _, _], _ => rfl
      m_node_in := PySem.W.mg_of X G a_node_in
      F_node_in := fun_mk (st := st_node_in) l_node_in c_node_in k_node_in
      b_node_in := (fun_mk (st := st_node_in) l_node_in c_node_in k_node_in).binds (ps := ["look", "heads", "boxes", "deep"]) fun _ _ _ _ _ _ us hl => match us, hl with | [_, _, _, _], _ => rfl
      m_functions := PySem.W.mg_of X G a_functions
      F_functions := fun_mk (st := st_functions) l_functions c_functions k_functions
      b_functions := (fun_mk (st := st_functions) l_functions c_functions k_functions).binds (ps := ["sheet"]) fun _ _ _ _ _ _ us hl => match us, hl with | [_], _ => rfl
      m_wrong := PySem.W.mg_of X G a_wrong
      F_wrong := fun_mk (st := st_wrong) l_wrong c_wrong k_wrong
      b_wrong := (fun_mk (st := st_wrong) l_wrong c_wrong k_wrong).binds (ps := ["numbers"]) fun _ _ _ _ _ _ us hl => match us, hl with | [_], _ => rfl
      m_nodes_in := PySem.W.mg_of X G a_nodes_in
      F_nodes_in := fun_mk (st := st_nodes_in) l_nodes_in c_nodes_in k_nodes_in
      b_nodes_in := (fun_mk (st := st_nodes_in) l_nodes_in c_nodes_in k_nodes_in).binds (ps := ["node"]) fun _ _ _ _ _ _ us hl => match us, hl with | [_], _ => rfl
      m_nodes := PySem.W.mg_of X G a_nodes
      F_nodes := fun_mk (st := st_nodes) l_nodes c_nodes k_nodes
      b_nodes := (fun_mk (st := st_nodes) l_nodes c_nodes k_nodes).binds (ps := ["sheet"]) fun _ _ _ _ _ _ us hl => match us, hl with | [_], _ => rfl
      m_Lmixed := PySem.W.mg_of X G a_Lmixed
      F_Lmixed := fun_mk (st := st_Lmixed) l_Lmixed c_Lmixed k_Lmixed
      b_Lmixed := (fun_mk (st := st_Lmixed) l_Lmixed c_Lmixed k_Lmixed).binds (ps := ["_law_cell", "_law_k"]) fun _ _ _ _ _ _ us hl => match us, hl with | [_, _], _ => rfl
      m_Ltake := PySem.W.mg_of X G a_Ltake
      F_Ltake := fun_mk (st := st_Ltake) l_Ltake c_Ltake k_Ltake
      b_Ltake := (fun_mk (st := st_Ltake) l_Ltake c_Ltake k_Ltake).binds (ps := ["_law_state", "_law_many"]) fun _ _ _ _ _ _ us hl => match us, hl with | [_, _], _ => rfl
      m_Lheads := PySem.W.mg_of X G a_Lheads
      F_Lheads := fun_mk (st := st_Lheads) l_Lheads c_Lheads k_Lheads
      b_Lheads := (fun_mk (st := st_Lheads) l_Lheads c_Lheads k_Lheads).binds (ps := ["_law_state"]) fun _ _ _ _ _ _ us hl => match us, hl with | [_], _ => rfl
      m_Lnumber := PySem.W.mg_of X G a_Lnumber
      F_Lnumber := fun_mk (st := st_Lnumber) l_Lnumber c_Lnumber k_Lnumber
      b_Lnumber := (fun_mk (st := st_Lnumber) l_Lnumber c_Lnumber k_Lnumber).binds (ps := ["_law_state"]) fun _ _ _ _ _ _ us hl => match us, hl with | [_], _ => rfl
      m_Lleaf := PySem.W.mg_of X G a_Lleaf
      F_Lleaf := fun_mk (st := st_Lleaf) l_Lleaf c_Lleaf k_Lleaf
      b_Lleaf := (fun_mk (st := st_Lleaf) l_Lleaf c_Lleaf k_Lleaf).binds (ps := ["_law_state", "_law_boxes"]) fun _ _ _ _ _ _ us hl => match us, hl with | [_, _], _ => rfl
      m_Lhead := PySem.W.mg_of X G a_Lhead
      F_Lhead := fun_mk (st := st_Lhead) l_Lhead c_Lhead k_Lhead
      b_Lhead := (fun_mk (st := st_Lhead) l_Lhead c_Lhead k_Lhead).binds (ps := ["_law_state", "_law_heads_here", "_law_boxes"]) fun _ _ _ _ _ _ us hl => match us, hl with | [_, _, _], _ => rfl
      m_Lnode := PySem.W.mg_of X G a_Lnode
      F_Lnode := fun_mk (st := st_Lnode) l_Lnode c_Lnode k_Lnode
      b_Lnode := (fun_mk (st := st_Lnode) l_Lnode c_Lnode k_Lnode).binds (ps := ["_law_state", "_law_heads_here", "_law_boxes", "_law_deep", "_law_room"]) fun _ _ _ _ _ _ us hl => match us, hl with | [_, _, _, _, _], _ => rfl
      m_Lsheet := PySem.W.mg_of X G a_Lsheet
      F_Lsheet := fun_mk (st := st_Lsheet) l_Lsheet c_Lsheet k_Lsheet
      b_Lsheet := (fun_mk (st := st_Lsheet) l_Lsheet c_Lsheet k_Lsheet).binds (ps := ["_law_state", "_law_most"]) fun _ _ _ _ _ _ us hl => match us, hl with | [_, _], _ => rfl
      m_Lown := PySem.W.mg_of X G a_Lown
      F_Lown := fun_mk (st := st_Lown) l_Lown c_Lown k_Lown
      b_Lown := (fun_mk (st := st_Lown) l_Lown c_Lown k_Lown).binds (ps := ["_law_sheet_here", "_law_at", "_law_boxes"]) fun _ _ _ _ _ _ us hl => match us, hl with | [_, _, _], _ => rfl
      m_Lparts := PySem.W.mg_of X G a_Lparts
      F_Lparts := fun_mk (st := st_Lparts) l_Lparts c_Lparts k_Lparts
      b_Lparts := (fun_mk (st := st_Lparts) l_Lparts c_Lparts k_Lparts).binds (ps := ["_law_sheet_here", "_law_at"]) fun _ _ _ _ _ _ us hl => match us, hl with | [_, _], _ => rfl
      m_Lhead_wrong := PySem.W.mg_of X G a_Lhead_wrong
      F_Lhead_wrong := fun_mk (st := st_Lhead_wrong) l_Lhead_wrong c_Lhead_wrong k_Lhead_wrong
      b_Lhead_wrong := (fun_mk (st := st_Lhead_wrong) l_Lhead_wrong c_Lhead_wrong k_Lhead_wrong).binds (ps := ["_law_sheet_here"]) fun _ _ _ _ _ _ us hl => match us, hl with | [_], _ => rfl
      m_Lwrong := PySem.W.mg_of X G a_Lwrong
      F_Lwrong := fun_mk (st := st_Lwrong) l_Lwrong c_Lwrong k_Lwrong
      b_Lwrong := (fun_mk (st := st_Lwrong) l_Lwrong c_Lwrong k_Lwrong).binds (ps := ["_law_sheet_here"]) fun _ _ _ _ _ _ us hl => match us, hl with | [_], _ => rfl
      m_Lbent := PySem.W.mg_of X G a_Lbent
      F_Lbent := fun_mk (st := st_Lbent) l_Lbent c_Lbent k_Lbent
      b_Lbent := (fun_mk (st := st_Lbent) l_Lbent c_Lbent k_Lbent).binds (ps := ["_law_state", "_law_sheet_here"]) fun _ _ _ _ _ _ us hl => match us, hl with | [_, _], _ => rfl
      m_Lheard := PySem.W.mg_of X G a_Lheard
      F_Lheard := fun_mk (st := st_Lheard) l_Lheard c_Lheard k_Lheard
      b_Lheard := (fun_mk (st := st_Lheard) l_Lheard c_Lheard k_Lheard).binds (ps := ["_law_way", "_law_sheet_here"]) fun _ _ _ _ _ _ us hl => match us, hl with | [_, _], _ => rfl
      m_Ledge := PySem.W.mg_of X G a_Ledge
      F_Ledge := fun_mk (st := st_Ledge) l_Ledge c_Ledge k_Ledge
      b_Ledge := (fun_mk (st := st_Ledge) l_Ledge c_Ledge k_Ledge).binds (ps := ["_law_state"]) fun _ _ _ _ _ _ us hl => match us, hl with | [_], _ => rfl
      m_law := PySem.W.mg_of X G a_law
      F_law := fun_mk (st := st_law) l_law c_law k_law
      b_law := (fun_mk (st := st_law) l_law c_law k_law).binds (ps := ["_law_script"]) fun _ _ _ _ _ _ us hl => match us, hl with | [_], _ => rfl
      g_ChainError := PySem.W.mg_of X G a_ChainError
      ri_ChainError := ri_ChainError
      rs_ChainError := rs_ChainError
      rv_ChainError := rv_ChainError
      g_NoSheet := PySem.W.mg_of X G a_NoSheet
      na_NoSheet_place := no_NoSheet_place
      na_NoSheet_word := no_NoSheet_word
      ox_NoSheet := ⟨⟨_, _, _, _, _, _, _, _, _, _, _, _, _, _, _, xl_NoSheet, by rfl⟩, sa_NoSheet, eb_NoSheet, tt_NoSheet, kc_NoSheet⟩
      xf_NoSheet := ⟨ga_NoSheet, gg_NoSheet, eb_NoSheet, hd_NoSheet⟩
      oi_NoSheet := at_NoSheet_init
      ot_NoSheet := tf_NoSheet_init
      g_NoText := PySem.W.mg_of X G a_NoText
      g_NoCode := PySem.W.mg_of X G a_NoCode
      g_NoRow := PySem.W.mg_of X G a_NoRow
      g_NoName := PySem.W.mg_of X G a_NoName
      ex_NoSheet_ChainError := _root_.Z.exm_mk eb_ChainError ic_ChainError tt_ChainError es_NoSheet_ChainError
      ex_NoSheet_NoSheet := _root_.Z.exm_mk eb_NoSheet ic_NoSheet tt_NoSheet es_NoSheet_NoSheet
      kx_NoSheet := ⟨qa_NoSheet, qg_NoSheet, eb_NoSheet, qd_NoSheet, qc_NoSheet, qn_, qt_, qm_NoSheet⟩
      kv_NoSheet := _root_.Z.kit_mkV kv_NoSheet
      ki_NoSheet_NoCode := _root_.Z.kit_mkR ic_NoCode tt_NoCode ki_NoSheet_NoCode kr_NoSheet
      ki_NoSheet_NoName := _root_.Z.kit_mkR ic_NoName tt_NoName ki_NoSheet_NoName kr_NoSheet
      ki_NoSheet_NoRow := _root_.Z.kit_mkR ic_NoRow tt_NoRow ki_NoSheet_NoRow kr_NoSheet
      ki_NoSheet_NoSheet := _root_.Z.kit_mkR ic_NoSheet tt_NoSheet ki_NoSheet_NoSheet kr_NoSheet
      ki_NoSheet_NoText := _root_.Z.kit_mkR ic_NoText tt_NoText ki_NoSheet_NoText kr_NoSheet }
  refine ⟨Z.d_law, fun s v => .of_eq rfl, fun base _ _ => ⟨Z, rfl, ?_⟩⟩
  have G_Lmixed := ok_Lmixed (P := l.prog) (w := w) (base := base) T 
  have G_Ltake := ok_Ltake (P := l.prog) (w := w) (base := base) T G_Lmixed
  have G_Lheads := ok_Lheads (P := l.prog) (w := w) (base := base) T G_Ltake
  have G_Lhead := ok_Lhead (P := l.prog) (w := w) (base := base) T G_Ltake
  have G_Lnumber := ok_Lnumber (P := l.prog) (w := w) (base := base) T G_Ltake
  have G_Lleaf := ok_Lleaf (P := l.prog) (w := w) (base := base) T G_Ltake G_Lnumber
  have GG := grp_Lnode (P := l.prog) (w := w) (base := base) T G_Lhead G_Lleaf 12
  have G_Lnode := GG
  have G_Lsheet := ok_Lsheet (P := l.prog) (w := w) (base := base) T G_Lheads G_Lnode G_Ltake
  have G_Lbent := ok_Lbent (P := l.prog) (w := w) (base := base) T G_Ltake
  have G_Ledge := ok_Ledge (P := l.prog) (w := w) (base := base) T G_Ltake
  have G_Lhead_wrong := ok_Lhead_wrong (P := l.prog) (w := w) (base := base) T 
  have G_Lown := ok_Lown (P := l.prog) (w := w) (base := base) T 
  have G_Lparts := ok_Lparts (P := l.prog) (w := w) (base := base) T 
  have G_Lwrong := ok_Lwrong (P := l.prog) (w := w) (base := base) T G_Lhead_wrong G_Lown G_Lparts
  have G_Look_init := ok_Look_init (P := l.prog) (w := w) (base := base) T 
  have G_NoSheet_init := ok_NoSheet_init (P := l.prog) (w := w) (base := base) T 
  have G_Look_due := ok_Look_due (P := l.prog) (w := w) (base := base) T G_NoSheet_init
  have G_Look_within := ok_Look_within (P := l.prog) (w := w) (base := base) T G_Look_due G_NoSheet_init
  have G_heads_in := ok_heads_in (P := l.prog) (w := w) (base := base) T G_Look_within
  have G_parts_of := ok_parts_of (P := l.prog) (w := w) (base := base) T 
  have G_own_numbers := ok_own_numbers (P := l.prog) (w := w) (base := base) T G_Look_due G_Look_within G_parts_of
  have GG := grp_node_in (P := l.prog) (w := w) (base := base) T G_NoSheet_init G_Look_within G_own_numbers 12
  have G_node_in := GG
  have G_functions := ok_functions (P := l.prog) (w := w) (base := base) T G_Look_init G_heads_in G_node_in G_NoSheet_init
  have G_wrong := ok_wrong (P := l.prog) (w := w) (base := base) T G_functions
  have GG := grp_nodes_in (P := l.prog) (w := w) (base := base) T  12
  have G_nodes_in := GG
  have G_nodes := ok_nodes (P := l.prog) (w := w) (base := base) T G_functions G_nodes_in
  have G_Lheard := ok_Lheard (P := l.prog) (w := w) (base := base) T G_functions G_nodes
  have G_law := ok_law (P := l.prog) (w := w) (base := base) T G_Lsheet G_Lbent G_Ltake G_Ledge G_Lwrong G_wrong G_Lheard
  exact G_law
theorem walk {l : PySem.W.OpenLaw} {q : Program} {loose : List Str} {XP : (Str → Option Value) → Heap → Prop} {YP : World → Heap → Prop} {d : DefRec} {K : Params → PySem.W.Frag} (hn : l.most = some 63) (hdf : d.params.defaults = [])
    (hY : ∀ (w : World) (h : Heap), YP w h → (K w.params).In h)
    (F : ∀ (w : World) (mg : Str → Option Value) (fa : Addr) (h : Heap), (K w.params).In h → h.Ns mainGlobals mg → mg d.name = some (.ref fa) →
      ∃ fd : FuncData, (∀ (s : Shared) (u : Value), BindsTo s fd ⟨[u], []⟩ [("_law_script", u)]) ∧ ∀ base : Heap, (K w.params).In base → base.Ns mainGlobals mg → ∃ Z : Adr, Z.K = K w.params ∧ FnOk l.prog w (K w.params) mg base (L2.CX l.prog w) 21 fa fd ["_law_script"] (sp_law Z)) :
    PySem.W.WalkO q loose XP YP l.row.toRowW d [] (fun f vs => PySem.call f vs) :=
  L2.walk_of (n := 63) (k := 21) (x := "_law_script") (CX := fun w => L2.CX l.prog w) (sp := fun w => sp_goal (K w.params)) hn (by decide) hdf ⟨rfl, by decide, by decide⟩ hY
    (fun w mg fa h a b c => by
      obtain ⟨fd, hb, z⟩ := F w mg fa h a b c
      refine ⟨fd, hb, fun base e f => ?_⟩
      obtain ⟨Z, hZ, g⟩ := z base e f
      exact g.imp fun vs H Q E q => goal_law Z (hZ ▸ q))
    (fun w H a ns hl hO hS => ⟨a, ns, rfl, hO, Scr.of hO hS, hl, fun _ => rfl⟩) fun w H s e s' z => by
      obtain ⟨_, _, _, _, _, _, _, _, _, _, _, _, z⟩ := z
      exact z.elim
end My
open PySem PySem.W PyProof.Rows
set_option maxRecDepth 100000 in
set_option maxHeartbeats 0 in
theorem PySem.Challenge.cw_ownchain_k03_where_it_is_none_holds : PySem.Challenge.rw_ownchain_k03_where_it_is_none.Holds := by
  w_on; o_law; k_head; (case hw => w_witness2)
  k_fill
  refine My.walk (l := PySem.Challenge.rw_ownchain_k03_where_it_is_none) rfl rfl (fun w h Y => PySem.W.kIn_of Y) ?F
  case F =>
    intro w mg fa h KX G hmg
    refine' My.all_mk KX G hmg ?i_NUMBER ?i_GET ?i_SET ?i_ALL ?i_PICK ?i_LOOP ?i_CALL ?i_FAIL ?i_PUT ?i_SIZE ?i_NEW ?i_MOST_FUNCTIONS ?i_MOST_PARAMS ?i_MOST_BOXES ?i_MOST_PARTS ?i_MOST_DEEP ?z_ValueError ?z_abs ?z_bool ?z_int ?z_isinstance ?z_len ?z_list ?z_range ?z_tuple ?a_ChainError ?eb_ChainError ?tt_ChainError ?ic_ChainError ?ri_ChainError ?rs_ChainError ?rv_ChainError ?a_NoSheet ?xl_NoSheet ?sa_NoSheet ?ga_NoSheet ?gg_NoSheet ?at_NoSheet_init ?tf_NoSheet_init ?kc_NoSheet ?hd_NoSheet ?no_NoSheet_place ?no_NoSheet_word ?eb_NoSheet ?tt_NoSheet ?ic_NoSheet ?a_NoText ?eb_NoText ?tt_NoText ?ic_NoText ?a_NoCode ?eb_NoCode ?tt_NoCode ?ic_NoCode ?a_NoRow ?eb_NoRow ?tt_NoRow ?ic_NoRow ?a_NoName ?eb_NoName ?tt_NoName ?ic_NoName ?es_NoSheet_ChainError ?es_NoSheet_NoSheet ?qn_ ?qt_ ?qa_NoSheet ?qg_NoSheet ?qd_NoSheet ?qc_NoSheet ?qm_NoSheet ?kv_NoSheet ?kr_NoSheet ?ki_NoSheet_NoCode ?ki_NoSheet_NoName ?ki_NoSheet_NoRow ?ki_NoSheet_NoSheet ?ki_NoSheet_NoText ?a_Look ?pg_Look ?hd_Look ?po_Look ?sa_Look ?mk_Look ?kc_Look ?at_Look_init ?fn_Look_init ?at_Look_due ?fn_Look_due ?at_Look_within ?fn_Look_within ?no_Look_numbers ?no_Look_place ?l_NoSheet_init ?c_NoSheet_init ?k_NoSheet_init ?a_parts_of ?l_parts_of ?c_parts_of ?k_parts_of ?l_Look_init ?c_Look_init ?k_Look_init ?l_Look_due ?c_Look_due ?k_Look_due ?l_Look_within ?c_Look_within ?k_Look_within ?a_heads_in ?l_heads_in ?c_heads_in ?k_heads_in ?a_own_numbers ?l_own_numbers ?c_own_numbers ?k_own_numbers ?a_node_in ?l_node_in ?c_node_in ?k_node_in ?a_functions ?l_functions ?c_functions ?k_functions ?a_wrong ?l_wrong ?c_wrong ?k_wrong ?a_nodes_in ?l_nodes_in ?c_nodes_in ?k_nodes_in ?a_nodes ?l_nodes ?c_nodes ?k_nodes ?a_Lmixed ?l_Lmixed ?c_Lmixed ?k_Lmixed ?a_Ltake ?l_Ltake ?c_Ltake ?k_Ltake ?a_Lheads ?l_Lheads ?c_Lheads ?k_Lheads ?a_Lnumber ?l_Lnumber ?c_Lnumber ?k_Lnumber ?a_Lleaf ?l_Lleaf ?c_Lleaf ?k_Lleaf ?a_Lhead ?l_Lhead ?c_Lhead ?k_Lhead ?a_Lnode ?l_Lnode ?c_Lnode ?k_Lnode ?a_Lsheet ?l_Lsheet ?c_Lsheet ?k_Lsheet ?a_Lown ?l_Lown ?c_Lown ?k_Lown ?a_Lparts ?l_Lparts ?c_Lparts ?k_Lparts ?a_Lhead_wrong ?l_Lhead_wrong ?c_Lhead_wrong ?k_Lhead_wrong ?a_Lwrong ?l_Lwrong ?c_Lwrong ?k_Lwrong ?a_Lbent ?l_Lbent ?c_Lbent ?k_Lbent ?a_Lheard ?l_Lheard ?c_Lheard ?k_Lheard ?a_Ledge ?l_Ledge ?c_Ledge ?k_Ledge ?a_law ?l_law ?c_law ?k_law
    (case i_NUMBER => k_is)
    (case i_GET => k_is)
    (case i_SET => k_is)
    (case i_ALL => k_is)
    (case i_PICK => k_is)
    (case i_LOOP => k_is)
    (case i_CALL => k_is)
    (case i_FAIL => k_is)
    (case i_PUT => k_is)
    (case i_SIZE => k_is)
    (case i_NEW => k_is)
    (case i_MOST_FUNCTIONS => k_is)
    (case i_MOST_PARAMS => k_is)
    (case i_MOST_BOXES => k_is)
    (case i_MOST_PARTS => k_is)
    (case i_MOST_DEEP => k_is)
    (case z_ValueError => k_is)
    (case z_abs => k_is)
    (case z_bool => k_is)
    (case z_int => k_is)
    (case z_isinstance => k_is)
    (case z_len => k_is)
    (case z_list => k_is)
    (case z_range => k_is)
    (case z_tuple => k_is)
    (case a_ChainError => k_is)
    (case eb_ChainError => k_is)
    (case tt_ChainError => k_is)
    (case ic_ChainError => k_is)
    (case ri_ChainError => k_is)
    (case rs_ChainError => k_is)
    (case rv_ChainError => k_is)
    (case a_NoSheet => k_is)
    (case xl_NoSheet => k_is)
    (case sa_NoSheet => k_is)
    (case ga_NoSheet => k_is)
    (case gg_NoSheet => k_is)
    (case at_NoSheet_init => k_is)
    (case tf_NoSheet_init => k_is)
    (case kc_NoSheet => k_is)
    (case hd_NoSheet => k_is)
    (case no_NoSheet_place => k_is)
    (case no_NoSheet_word => k_is)
    (case eb_NoSheet => k_is)
    (case tt_NoSheet => k_is)
    (case ic_NoSheet => k_is)
    (case a_NoText => k_is)
    (case eb_NoText => k_is)
    (case tt_NoText => k_is)
    (case ic_NoText => k_is)
    (case a_NoCode => k_is)
    (case eb_NoCode => k_is)
    (case tt_NoCode => k_is)
    (case ic_NoCode => k_is)
    (case a_NoRow => k_is)
    (case eb_NoRow => k_is)
    (case tt_NoRow => k_is)
    (case ic_NoRow => k_is)
    (case a_NoName => k_is)
    (case eb_NoName => k_is)
    (case tt_NoName => k_is)
    (case ic_NoName => k_is)
    (case es_NoSheet_ChainError => k_is)
    (case es_NoSheet_NoSheet => k_is)
    (case qn_ => k_is)
    (case qt_ => k_is)
    (case qa_NoSheet => k_is)
    (case qg_NoSheet => k_is)
    (case qd_NoSheet => k_is)
    (case qc_NoSheet => k_is)
    (case qm_NoSheet => k_is)
    (case kv_NoSheet => k_is)
    (case kr_NoSheet => k_is)
    (case ki_NoSheet_NoCode => k_is)
    (case ki_NoSheet_NoName => k_is)
    (case ki_NoSheet_NoRow => k_is)
    (case ki_NoSheet_NoSheet => k_is)
    (case ki_NoSheet_NoText => k_is)
    (case a_Look => k_is)
    (case pg_Look => k_is)
    (case hd_Look => k_is)
    (case po_Look => k_is)
    (case sa_Look => k_is)
    (case mk_Look => k_is)
    (case kc_Look => k_is)
    (case at_Look_init => k_is)
    (case fn_Look_init => k_is)
    (case at_Look_due => k_is)
    (case fn_Look_due => k_is)
    (case at_Look_within => k_is)
    (case fn_Look_within => k_is)
    (case no_Look_numbers => k_is)
    (case no_Look_place => k_is)
    (case l_NoSheet_init => k_is)
    (case c_NoSheet_init => k_is)
    (case k_NoSheet_init => k_is)
    (case a_parts_of => k_is)
    (case l_parts_of => k_is)
    (case c_parts_of => k_is)
    (case k_parts_of => k_is)
    (case l_Look_init => k_is)
    (case c_Look_init => k_is)
    (case k_Look_init => k_is)
    (case l_Look_due => k_is)
    (case c_Look_due => k_is)
    (case k_Look_due => k_is)
    (case l_Look_within => k_is)
    (case c_Look_within => k_is)
    (case k_Look_within => k_is)
    (case a_heads_in => k_is)
    (case l_heads_in => k_is)
    (case c_heads_in => k_is)
    (case k_heads_in => k_is)
    (case a_own_numbers => k_is)
    (case l_own_numbers => k_is)
    (case c_own_numbers => k_is)
    (case k_own_numbers => k_is)
    (case a_node_in => k_is)
    (case l_node_in => k_is)
    (case c_node_in => k_is)
    (case k_node_in => k_is)
    (case a_functions => k_is)
    (case l_functions => k_is)
    (case c_functions => k_is)
    (case k_functions => k_is)
    (case a_wrong => k_is)
    (case l_wrong => k_is)
    (case c_wrong => k_is)
    (case k_wrong => k_is)
    (case a_nodes_in => k_is)
    (case l_nodes_in => k_is)
    (case c_nodes_in => k_is)
    (case k_nodes_in => k_is)
    (case a_nodes => k_is)
    (case l_nodes => k_is)
    (case c_nodes => k_is)
    (case k_nodes => k_is)
    (case a_Lmixed => k_is)
    (case l_Lmixed => k_is)
    (case c_Lmixed => k_is)
    (case k_Lmixed => k_is)
    (case a_Ltake => k_is)
    (case l_Ltake => k_is)
    (case c_Ltake => k_is)
    (case k_Ltake => k_is)
    (case a_Lheads => k_is)
    (case l_Lheads => k_is)
    (case c_Lheads => k_is)
    (case k_Lheads => k_is)
    (case a_Lnumber => k_is)
    (case l_Lnumber => k_is)
    (case c_Lnumber => k_is)
    (case k_Lnumber => k_is)
    (case a_Lleaf => k_is)
    (case l_Lleaf => k_is)
    (case c_Lleaf => k_is)
    (case k_Lleaf => k_is)
    (case a_Lhead => k_is)
    (case l_Lhead => k_is)
    (case c_Lhead => k_is)
    (case k_Lhead => k_is)
    (case a_Lnode => k_is)
    (case l_Lnode => k_is)
    (case c_Lnode => k_is)
    (case k_Lnode => k_is)
    (case a_Lsheet => k_is)
    (case l_Lsheet => k_is)
    (case c_Lsheet => k_is)
    (case k_Lsheet => k_is)
    (case a_Lown => k_is)
    (case l_Lown => k_is)
    (case c_Lown => k_is)
    (case k_Lown => k_is)
    (case a_Lparts => k_is)
    (case l_Lparts => k_is)
    (case c_Lparts => k_is)
    (case k_Lparts => k_is)
    (case a_Lhead_wrong => k_is)
    (case l_Lhead_wrong => k_is)
    (case c_Lhead_wrong => k_is)
    (case k_Lhead_wrong => k_is)
    (case a_Lwrong => k_is)
    (case l_Lwrong => k_is)
    (case c_Lwrong => k_is)
    (case k_Lwrong => k_is)
    (case a_Lbent => k_is)
    (case l_Lbent => k_is)
    (case c_Lbent => k_is)
    (case k_Lbent => k_is)
    (case a_Lheard => k_is)
    (case l_Lheard => k_is)
    (case c_Lheard => k_is)
    (case k_Lheard => k_is)
    (case a_Ledge => k_is)
    (case l_Ledge => k_is)
    (case c_Ledge => k_is)
    (case k_Ledge => k_is)
    (case a_law => k_is)
    (case l_law => k_is)
    (case c_law => k_is)
    (case k_law => k_is)
