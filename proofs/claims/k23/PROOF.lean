import PyProof.Rows.All
import Wide.All
import OpenK.AllK
import Wide.FinOn
import HandS.ForMost
import HandS.ForExc
import HandS.IsInst
import HandS.Wide
import HandS.TryOnly
import HandS.Codes
import HandS.Style
import HandS.ExcInit
import HandS.ExcField
import PySem.Challenge.RW_ownchain_k23_codes_read
set_option Elab.async false
set_option linter.all false
set_option maxRecDepth 100000
set_option maxHeartbeats 8000000
set_option Elab.async false
set_option linter.all false
set_option maxRecDepth 100000
set_option maxHeartbeats 4000000
/-! Step lemmas over the hand layer's readings: each goal of a reading is turned by one lemma. -/
namespace Z
open PySem PySem.Spec PyProof.Rows L2

abbrev kS (s : Str) : Key := Sum.inr s
abbrev kI (i : Int) : Key := Sum.inl i
/-! ### universal rules: by the values -/
section
variable {X : Cx}
def rFdv : R2 := rI (fun _ j => j ≠ 0 ∧ j.natAbs.log2 < 9000) fun i j => .int (i.fdiv j)
theorem op_fdv : OpR X (binaryOp .FloorDiv) rFdv := opI fun i j _ _ _ _ _ hc q => floordiv_int hc.1 q (.inl (PyProof.noPylong_of_log2 hc.2))
def rMod : R2 := rI (fun _ j => j ≠ 0) fun i j => .int (i.fmod j)
theorem op_md : OpR X (binaryOp .Mod) rMod := op_modN
def rMul : R2 := rI (fun i j => CMul i j ∨ CMulW i j) fun i j => .int (i * j)
theorem op_ml : OpR X (binaryOp .Mult) rMul := opI fun _ _ _ _ _ _ _ hc q => mul_int q (hc.elim CMul.ok CMulW.ok)
def rAddI : R2 := rI0 fun i j => .int (i + j)
def rAddS : R2 := fun x y H Q => ∃ i j, x = .str i ∧ y = .str j ∧ i.length + j.length ≤ sizeLine ∧ Q (.str (i ++ j)) H
def rAddU (K : PySem.W.Frag) : R2 := fun x y H Q => rAddI x y H Q ∨ rAddS x y H Q ∨ rCat x y H Q ∨ rCatT K x y H Q
theorem op_addU : OpR X (binaryOp .Add) (rAddU X.K) := OpR.or op_add (OpR.or op_add_str (OpR.or op_cat op_catT))
def rEqU (K : PySem.W.Frag) : R2 := fun x y H Q => rEq x y H Q ∨ rEqD K x y H Q
theorem op_eqU (hu : X.A.units + 64 < cLine) : OpR X (compareOp .Eq) (rEqU X.K) := OpR.or op_eq (op_eqD hu)
def rNeU (K : PySem.W.Frag) : R2 := fun x y H Q => rNe x y H Q ∨ rNeD K x y H Q
theorem op_neU (hu : X.A.units + 64 < cLine) : OpR X (compareOp .NotEq) (rNeU X.K) := OpR.or op_ne (op_neD hu)
def rLen (K : PySem.W.Frag) : List V → Hp → VK → Prop := fun xs H Q => ∃ x n, xs = [x] ∧ LenV K x H n ∧ Q (.int (n : Nat)) H
theorem call_len' : CallR X (.builtin "len") (rLen X.K) := call_len
theorem pe_powc {b n z : Int} {k k' : Nat} {p p' pos : Pos} (hc : CPow b n) (h : b ^ n.toNat = z) : PE X (.BinOp (.Constant (.int b) k p) .Pow (.Constant (.int n) k' p') pos) (tC (.int z)) :=
  ⟨fun pins s σ H Q I q => (pe_op op_pow pe_int pe_int).run pins s σ H Q I ⟨b, n, rfl, rfl, hc, by show Q (.int (b ^ n.toNat)) H; rw [h]; exact q⟩⟩
def rMin2 : List V → Hp → VK → Prop := fun xs H Q => ∃ i j, xs = [.int i, .int j] ∧ Q (.int (if j < i then j else i)) H
theorem call_min' (hc : X.calm = true) : CallR X (.builtin "min") rMin2 := call_min2 hc
def rMax2 : List V → Hp → VK → Prop := fun xs H Q => ∃ i j, xs = [.int i, .int j] ∧ Q (.int (if j > i then j else i)) H
theorem call_max' (hc : X.calm = true) : CallR X (.builtin "max") rMax2 := call_max2 hc
def rListOf (K : PySem.W.Frag) : List V → Hp → VK → Prop := fun xs H Q => ∃ p ys, xs = [.ref p] ∧ (SqL K H p ys ∨ SqT K H p ys) ∧ ∀ l, H l = none → Q (.ref l) (upd H l (.lst ys))
theorem call_list' : CallR X (.type "list") (rListOf X.K) := call_list_of
def rTupOf (K : PySem.W.Frag) : List V → Hp → VK → Prop := fun xs H Q => ∃ p ys, xs = [.ref p] ∧ ((SqL K H p ys ∧ ∀ l, H l = none → Q (.ref l) (upd H l (.tup ys))) ∨ (SqT K H p ys ∧ Q (.ref p) H))
theorem call_tuple' : CallR X (.type "tuple") (rTupOf X.K) := call_tuple_of
def rInt1 : List V → Hp → VK → Prop := fun xs H Q => (∃ i, xs = [.int i] ∧ Q (.int i) H) ∨ ∃ k, xs = [.bl k] ∧ Q (.int (if k then 1 else 0)) H
theorem call_int' : CallR X (.type "int") rInt1 := call_int1
def rAbs : List V → Hp → VK → Prop := fun xs H Q => ∃ i, xs = [.int i] ∧ Q (.int (if i < 0 then -i else i)) H
theorem call_abs' : CallR X (.builtin "abs") rAbs := call_abs
def rStrI : List V → Hp → VK → Prop := fun xs H Q => ∃ i, xs = [.int i] ∧ i.natAbs.log2 < 1920 ∧ Q (.str (toString i)) H
theorem call_str' : CallR X (.type "str") rStrI := call_str_int
def rIsNz : R2 := fun x y H Q => y = .non ∧ Q (.bl (decide (x = .non))) H
theorem op_isNz : OpR X (compareOp .Is) rIsNz := op_isN
def rNotNz : R2 := fun x y H Q => y = .non ∧ Q (.bl (!decide (x = .non))) H
theorem op_notNz : OpR X (compareOp .IsNot) rNotNz := op_notN
/-- a, b = a tuple or a list -/
def gUn (K : PySem.W.Frag) (n : Nat) (t : TGs) : TG := fun v σ H Q => gTup K n t v σ H Q ∨ gLst K n t v σ H Q
theorem pg_un {pos : Pos} {es : List Expr} {k : Nat} {t : TGs} {n : Nat} (hc : X.calm = true) (h : PGs X es t)
    (hn : (assignEach es X.env).length = n := by rfl) (hst : (assignEach es X.env).findIdx? (·.1) = none := by rfl) : PG X (.Tuple es k pos) (gUn X.K n t) :=
  ⟨fun pins s σ H v u Q I r hw => hw.elim (fun z => (pg_tup hc h hn hst).run pins s σ H v u Q I r z) fun z => (pg_lst hc h hn hst).run pins s σ H v u Q I r z⟩
def rIsi2 (K : PySem.W.Frag) : List V → Hp → VK → Prop := fun xs H Q => rIsi K xs H Q ∨ rIsiT K xs H Q
theorem call_isi' : CallR X (.builtin "isinstance") (rIsi2 X.K) := fun pins s σ H vs us Q I r h => h.elim (fun z => call_isi pins s σ H vs us Q I r z) (fun z => call_isiT pins s σ H vs us Q I r z)
end

def rJoin (K : PySem.W.Frag) : V → List V → Hp → VK → Prop := fun x xs H Q => ∃ a p, ∃ ys : List Str, x = .str a ∧ xs = [.ref p] ∧ (SqL K H p (ys.map V.str) ∨ SqT K H p (ys.map V.str)) ∧
  (ys.map (·.length)).sum + ys.length * a.length ≤ 16777216 ∧ Q (.str (Txt.join a ys)) H
def rWords : V → List V → Hp → VK → Prop := fun x xs H Q => ∃ a, x = .str a ∧ xs = [] ∧ a.length + 2 ≤ sizeLine ∧ rNewStrs (Txt.words a) H Q
def rSplit : V → List V → Hp → VK → Prop := fun x xs H Q => ∃ a b, x = .str a ∧ xs = [.str b] ∧ (b.length == 0) = false ∧ a.length + 2 ≤ sizeLine ∧ rNewStrs (Txt.split a b) H Q
def rUpper : V → List V → Hp → VK → Prop := fun x xs H Q => ∃ a, x = .str a ∧ xs = [] ∧ a.length ≤ 5592405 ∧ Q (.str (Txt.upper a)) H
def rRstrip : V → List V → Hp → VK → Prop := fun x xs H Q => ∃ a, x = .str a ∧ xs = [] ∧ a.length ≤ sizeLine ∧ Q (.str (Txt.rstrip a)) H
def rStrip : V → List V → Hp → VK → Prop := fun x xs H Q => ∃ a, x = .str a ∧ xs = [] ∧ a.length ≤ sizeLine ∧ Q (.str (Txt.strip a)) H
theorem sqT_mk {K : PySem.W.Frag} {H : Hp} {a : Addr} {xs : List V} {its : Array Value} {n : Nat} {od : Option Addr} {sl : Array (Option Value)} (l : K.lookup a = some ⟨.type "tuple", od, .seq its n, sl⟩) (hz : its.size ≤ 1000) (v : Vals xs its.toList) : SqT K H a xs :=
  .inr ⟨_, its, n, l, rfl, rfl, Nat.le_trans hz (by decide), v⟩

theorem at_ofN {α : Type} {xs : List α} {z : Int} {j : Nat} {v : α} (e : z = (j : Int)) (h : xs[j]? = some v) : atI xs z = some v := by
  rw [e]
  exact atI_nat h
/-! ### own functions without arguments, methods, made instances: what they may let out at the slots -/
section
open PySem.Calls
variable {X : Cx} {CX : CXT} {k : Nat} {f C : Addr} {fd : FuncData} {ps : List Str} {sp : Sp} {E : L2.St → XK} {x m : Str} {p pos apos : Pos} {e o : Expr} {es : List Expr} {ta : TE} {t : TA}
theorem pe_call0Z (F : FnOk X.prog X.w X.K X.mg X.base CX k f fd ps sp) (hr : Room k X.A) (hg : Gl X x) (hm : X.mg x = some (.ref f)) (hk : PySem.W.keepIn X.K (.ref f) = true) (hb : Binds X.K fd ps []) (hx : ∀ σ, PassesAt CX X σ (E σ))
    (hdb : (x == ("__debug__" : Str)) = false := by decide) : PE X (.Call (.Name x p) [] [] pos) (tCallS sp E tNil) := by
  refine ⟨fun pins s σ H Q I h => ?_⟩
  refine wpAny_Call_Name_kw (ld_glob I hg hm ?_ hdb)
  exact PySem.W.callWith_K0 I.kIn hk (run_fnS (us := []) F hr hb (hx σ) I .nil h)
def zSelf (C : Addr) (m : Str) (x : V) (H : Hp) (N : Prop) : Prop := ∃ a dx fs, x = .ref a ∧ H a = some (.ins C dx fs) ∧ fs.lookup m = none ∧ N
def tMethZ (C : Addr) (m : Str) (sp : Sp) (E : L2.St → XK) (ta : TE) (t : TA) : TE := fun σ H Q => ta σ H fun x H1 => ∃ a dx fs, x = .ref a ∧ H1 a = some (.ins C dx fs) ∧ fs.lookup m = none ∧ t σ H1 fun vs H2 => sp (x :: vs) H2 Q (E σ)
theorem pe_methZ {pl : Sem Bool} (he : PE X o ta) (c : Cls X.K C) (hm : Meth X.K C m f) (F : FnOk X.prog X.w X.K X.mg X.base CX k f fd ps sp) (hr : Room k X.A) (hb : Binds X.K fd ps []) (hx : ∀ σ, PassesAt CX X σ (E σ)) (ha : PA X (e :: es) t)
    (hst : starEach (e :: es) X.env = (false, eval e X.env) :: starEach es X.env := by rfl) (hpl : (backTo pos (starEach es X.env)).any (·.1) = false := by rfl)
    (ht : eval (.Call (.Attribute o m apos) (e :: es) [] pos) X.env = (do
      let ov ← eval o X.env
      standAt apos.atName
      let (f, first) ← holding [ov] (getMethod ov m pl)
      callWith pos f first (backTo pos (starEach (e :: es) X.env)) (backToKw pos (keywordEach [] X.env))) := by rfl) :
    PE X (.Call (.Attribute o m apos) (e :: es) [] pos) (tMethZ C m sp E ta t) := by
  refine ⟨fun pins s σ H Q I h => ?_⟩
  refine PySem.W.methodCall_KW (pl := pl) (thn (he.run pins s σ H _ I h) fun u s1 ⟨x, H1, I1, rx, a, dx, fs, ex, ea, l, q⟩ => ?_) ht
  subst ex
  obtain rfl : u = Value.ref a := rx
  refine getmeth_ok I1 ea c hm l ?_
  refine PySem.W.callWith_K (first := [.ref a]) (h₀ := X.base) I.ok.mod.kin hm.kp (thn (ha.run pos pins s1 σ H1 _ I1 q) fun us s2 ⟨vs, H2, I2, r, q2⟩ => ⟨I2.kIn, ?_⟩) hst hpl
  exact run_fnS (us := .ref a :: us) (vs := .ref a :: vs) F hr hb (hx σ) I2 (.cons rfl r) q2
theorem pe_meth0Z {pl : Sem Bool} (he : PE X o ta) (c : Cls X.K C) (hm : Meth X.K C m f) (F : FnOk X.prog X.w X.K X.mg X.base CX k f fd ps sp) (hr : Room k X.A) (hb : Binds X.K fd ps []) (hx : ∀ σ, PassesAt CX X σ (E σ))
    (ht : eval (.Call (.Attribute o m apos) [] [] pos) X.env = (do
      let ov ← eval o X.env
      standAt apos.atName
      let (f, first) ← holding [ov] (getMethod ov m pl)
      callWith pos f first (backTo pos (starEach [] X.env)) (backToKw pos (keywordEach [] X.env))) := by rfl) :
    PE X (.Call (.Attribute o m apos) [] [] pos) (tMethZ C m sp E ta tNil) := by
  refine ⟨fun pins s σ H Q I h => ?_⟩
  refine PySem.W.methodCall_KW (pl := pl) (thn (he.run pins s σ H _ I h) fun u s1 ⟨x, H1, I1, rx, a, dx, fs, ex, ea, l, q⟩ => ?_) ht
  subst ex
  obtain rfl : u = Value.ref a := rx
  refine getmeth_ok I1 ea c hm l ?_
  exact PySem.W.callWith_K0 (first := [.ref a]) I1.kIn hm.kp (run_fnS (us := [.ref a]) (vs := [.ref a]) F hr hb (hx σ) I1 (.cons rfl .nil) q)
def tMakeZ (C : Addr) (sp : Sp) (E : L2.St → XK) (t : TA) : TE := fun σ H Q => t σ H fun vs H1 => ∀ x dx, H1 x = none → H1 dx = none → dx ≠ x →
  sp (.ref x :: vs) (upd (upd H1 dx (.own x)) x (.ins C dx [])) (fun v H2 => v = .non ∧ Q (.ref x) H2) (E σ)
theorem run_makeZ {pins : List (Addr × Obj)} {σ : L2.St} {H : Hp} {s : Shared} {Q : VK} {us : List Value} {vs : List V} {E : XK} (M : Mk X.K C f) (F : FnOk X.prog X.w X.K X.mg X.base CX k f fd ps sp) (hr : Room (k + 1) X.A) (hb : Binds X.K fd ps [])
    (hx : PassesAt CX X σ E) (I : Inv X pins σ H s) (r : Vals vs us)
    (h : ∀ x dx, H x = none → H dx = none → dx ≠ x → sp (.ref x :: vs) (upd (upd H dx (.own x)) x (.ins C dx [])) (fun v H2 => v = .non ∧ Q (.ref x) H2) E) :
    wpAny (model X.prog X.w) X.A (call (.ref C) us) (EP X pins σ Q) X.xe s := by
  have hq := h (s.heap.objs.size + 1) s.heap.objs.size (I.hok.fresh (Nat.le_succ _)) (I.hok.fresh (Nat.le_refl _)) (Nat.ne_of_lt (Nat.lt_succ_self _))
  have I2 := Inv.made (C := C) I
  have r2 : Vals (V.ref (s.heap.objs.size + 1) :: vs) (Value.ref (s.heap.objs.size + 1) :: us) := .cons rfl r
  have hl : (Value.ref (s.heap.objs.size + 1) :: us).length = ps.length := by rw [← r2.length]; exact F.len _ _ _ _ hq
  have b := hb _ (Value.ref (s.heap.objs.size + 1) :: us) I2.kIn (by rw [List.append_nil]; exact hl)
  rw [List.append_nil] at b
  refine wpAny_call (make_map (f := f) I.kIn M.makes M.init (beq_iff_eq.mp M.fn) (codeAny_mono (F.run _ X.stack _ _ ⟨Value.ref (s.heap.objs.size + 1) :: us, []⟩ (Value.ref (s.heap.objs.size + 1) :: us) _ _ E (hr.make C us [])
    (I2.env0.make C us []) b r2 hq) fun r s' hq' => ?_))
  cases r with
  | error e => exact hx pins _ _ e s' I2 hq'
  | ok fl =>
    cases fl with
    | ret u =>
      obtain ⟨v, H', I3, rv, ev, q3⟩ := I2.after hq'
      subst ev
      exact ⟨rv, ⟨V.ref (s.heap.objs.size + 1), H', I3, rfl, q3⟩⟩
    | next => exact False.elim hq'
    | brk => exact False.elim hq'
    | cont => exact False.elim hq'
theorem pe_makeZ (M : Mk X.K C f) (F : FnOk X.prog X.w X.K X.mg X.base CX k f fd ps sp) (hr : Room (k + 1) X.A) (hg : Gl X x) (hm : X.mg x = some (.ref C)) (hb : Binds X.K fd ps []) (hx : ∀ σ, PassesAt CX X σ (E σ))
    (ha : PA X (e :: es) t) (hdb : (x == ("__debug__" : Str)) = false := by decide) (he : starEach (e :: es) X.env = (false, eval e X.env) :: starEach es X.env := by rfl) (hpl : (backTo pos (starEach es X.env)).any (·.1) = false := by rfl) :
    PE X (.Call (.Name x p) (e :: es) [] pos) (tMakeZ C sp E t) := by
  refine ⟨fun pins s σ H Q I h => ?_⟩
  refine wpAny_Call_Name_kw (ld_glob I hg hm ?_ hdb)
  refine PySem.W.callWith_K (h₀ := X.base) I.ok.mod.kin M.kp (thn (ha.run pos pins s σ H _ I h) fun us s1 ⟨vs, H1, I1, r, q⟩ => ⟨I1.kIn, ?_⟩) he hpl
  exact run_makeZ M F hr hb (hx σ) I1 r q
theorem pe_make0Z (M : Mk X.K C f) (F : FnOk X.prog X.w X.K X.mg X.base CX k f fd ps sp) (hr : Room (k + 1) X.A) (hg : Gl X x) (hm : X.mg x = some (.ref C)) (hb : Binds X.K fd ps []) (hx : ∀ σ, PassesAt CX X σ (E σ))
    (hdb : (x == ("__debug__" : Str)) = false := by decide) : PE X (.Call (.Name x p) [] [] pos) (tMakeZ C sp E tNil) := by
  refine ⟨fun pins s σ H Q I h => ?_⟩
  refine wpAny_Call_Name_kw (ld_glob I hg hm ?_ hdb)
  exact PySem.W.callWith_K0 I.kIn M.kp (run_makeZ (us := []) M F hr hb (hx σ) I .nil h)
/-- a statement that is never come to -/
def zNever : TS := fun _ _ _ => False
theorem ps_zNever {st : Stmt} : PS X st zNever := ⟨fun _ _ _ _ _ _ h => h.elim⟩
end
theorem lk_eq {f : Str} {v : V} {r : List (Str × V)} : List.lookup f ((f, v) :: r) = some v := by simp [List.lookup]
theorem lk_ne {f g : Str} {v : V} {r : List (Str × V)} (h : ¬ f = g) : List.lookup f ((g, v) :: r) = List.lookup f r := by
  have : (f == g) = false := by simpa using h
  simp [List.lookup, this]
theorem pu_eq {f : Str} {y v : V} {r : List (Str × V)} : putF f y ((f, v) :: r) = (f, y) :: r := if_pos rfl
theorem pu_ne {f g : Str} {y v : V} {r : List (Str × V)} (h : ¬ g = f) : putF f y ((g, v) :: r) = (g, v) :: putF f y r := if_neg h
theorem pu_nil {f : Str} {y : V} : putF f y [] = [(f, y)] := rfl

/-! ### own exceptions -/
section
open PySem.Calls
variable {X : Cx} {e : Expr} {es : List Expr} {ta : TA} {p1 p2 pos : Pos} {D : Addr} {n : Str}
/-- D.__init__(self, ..), D an own class over ValueError without an __init__ of its own -/
theorem pe_cinit {pl : Sem Bool} (hg : Gl X n) (hm : X.mg n = some (.ref D)) (hr : PySem.W.readsIn X.K D (.type "type") = true) (hs : PySem.W.specialIn X.K (.ref D) "__getattribute__" = some (some (.builtin "type.__getattribute__")))
    (hv : PySem.W.findCls X.K (.ref D) (.type "type") "__init__" = some (.val (.builtin "ValueError.__init__"))) (ha : PA X (e :: es) ta) (hdb : (n == ("__debug__" : Str)) = false := by decide)
    (hc : eval (.Call (.Attribute (.Name n p1) "__init__" p2) (e :: es) [] pos) X.env = (do
      let ov ← eval (.Name n p1) X.env
      standAt p2.atName
      let (f, first) ← holding [ov] (getMethod ov "__init__" pl)
      callWith pos f first (backTo pos (starEach (e :: es) X.env)) (backToKw pos (keywordEach [] X.env))) := by rfl)
    (he : starEach (e :: es) X.env = (false, eval e X.env) :: starEach es X.env := by rfl) (hpl : (backTo pos (starEach es X.env)).any (·.1) = false := by rfl) :
    PE X (.Call (.Attribute (.Name n p1) "__init__" p2) (e :: es) [] pos) (tVeI X.K ta) := by
  refine ⟨fun pins s σ H Q I h => ?_⟩
  refine PySem.W.methodCall_KW (ld_glob I hg hm ?_ hdb) hc
  refine PySem.W.method_cls I.kIn hs (PySem.W.cls_value I.kIn hr hv (by decide +kernel) ?_)
  show wpAny _ _ (callWith pos (Value.builtin "ValueError.__init__") [] (backTo pos (starEach (e :: es) X.env)) []) _ _ _
  refine PyProof.Rows.callWith_method1 (thn (ha.run pos pins _ σ H _ (I.tok _) h) fun us s1 ⟨vs, H1, I1, r1, a, C, ws, ev, hl, T, ea, q⟩ => ?_) he hpl
  subst ev
  cases r1 with
  | @cons _ u0 _ ur ra rw' =>
    obtain rfl : u0 = Value.ref a := ra
    have hlen : ur.length ≤ sizeLine := by
      rw [← Paired.length rw', sizeLine_eq]
      omega
    exact oinit_ok T I1 ea hlen fun s' J => ⟨.non, H1, J, rfl, q⟩
/-- raise C(..) with an __init__ of its own -/
def sRaiseO (C : Addr) (sp : Sp) (W : WX) (ta : TA) : TS := fun _ σ H => tMkO C sp [] ta σ H fun cls d H' => W cls d σ H'
theorem ps_raiseO {CX : CXT} {W : WX} {x : Str} {C fI : Addr} {k : Nat} {fd : FuncData} {ps : List Str} {sp : Sp} {p pos' : Pos} (hcalm : X.calm = true) (tk : Takes X W) (T : OexC X.K C) (iC : PySem.W.findIn X.K (.ref C) "__init__" = some (some (.ref fI))) (tI : PySem.W.typeIn X.K (.ref fI) = some (.type "function"))
    (F1 : FnOk X.prog X.w X.K X.mg X.base CX k fI fd ps sp) (hr : Room (k + 1) X.A) (hb : Binds X.K fd ps []) (hx : Passes CX X (fun _ _ _ => False)) (hg : Gl X x) (hm : X.mg x = some (.ref C)) (ha : PA X (e :: es) ta)
    (hdb : (x == ("__debug__" : Str)) = false := by decide) (he : starEach (e :: es) X.env = (false, eval e X.env) :: starEach es X.env := by rfl) (hpl : (backTo pos (starEach es X.env)).any (·.1) = false := by rfl) :
    PS X (.Raise (some (.Call (.Name x p) (e :: es) [] pos)) none pos') (sRaiseO C sp W ta) :=
  ps_raise hcalm tk (pmk_oex T iC tI F1 hr hb .nil hx hg hm ha hdb he hpl)
theorem passF {X : Cx} : Passes (L2.CX X.prog X.w) X (fun _ _ _ => False) := fun pins σ H s e s' I c => passL pins σ H s e s' I c
/-- an error of the class at S: does «except C» name it -/
theorem exm_mk {K : PySem.W.Frag} {S C : Addr} {b : Bool} (h1 : PySem.W.subIn K (.ref C) (.type "BaseException") = some true) (h2 : PySem.W.isClsIn K C = true) (h3 : PySem.W.typeIn K (.ref C) = some (.type "type")) (h4 : PySem.W.subIn K (.ref S) (.ref C) = some b) :
    PySem.W.exmOne K (.ref S) (.ref C) = some b := by
  have e1 : (PySem.W.subIn K (.ref C) (.type "BaseException") == some true) = true := by rw [h1] <;> rfl
  have e2 : ((PySem.W.clsIn K C).isSome && PySem.W.typeIn K (.ref C) == some (.type "type")) = true := by
    have h2' : (PySem.W.clsIn K C).isSome = true := h2
    rw [h2', h3] <;> rfl
  show (if (PySem.W.subIn K (.ref C) (.type "BaseException") == some true) = true then (if ((PySem.W.clsIn K C).isSome && PySem.W.typeIn K (.ref C) == some (.type "type")) = true then PySem.W.subIn K (.ref S) (.ref C) else none) else none) = some b
  rw [if_pos e1, if_pos e2]
  exact h4
def sTryOnly (K : PySem.W.Frag) (c : Value) (tb : WX → TS) (ts : Addr → Value → Option Addr → TS) (W : WX) : TS := fun D σ H => tb (wOnly K c ts W D) D σ H
/-- raise C('m'), C without an __init__ of its own -/
def sRaiseN (C : Addr) (W : WX) : TS := fun _ σ H => W (.ref C) none σ H
/-- try: .. except x as n: .. -/
def sTryAs (K : PySem.W.Frag) (c : Value) (i : Nat) (tb : WX → TS) (ts : Addr → Value → Option Addr → TS) (W : WX) : TS := fun D σ H => tb (wAs K c i ts W D) D σ H
end
def zPutF (K : PySem.W.Frag) (x : V) (f : Str) (y : V) (H : Hp) (N : Hp → Prop) : Prop := ∃ a C dx fs, x = .ref a ∧ H a = some (.ins C dx fs) ∧ Cls K C ∧ NoAttr K C f ∧ fs.length < 1000 ∧ N (upd H a (.ins C dx (putF f y fs)))
def zMade (C : Addr) (H : Hp) (sp : V → Hp → Prop) : Prop := ∀ x dx, H x = none → H dx = none → dx ≠ x → sp (.ref x) (upd (upd H dx (.own x)) x (.ins C dx []))
/-! ### parts of readings by name -/
def zB (x : V) (H : Hp) (Q : Bool → Hp → Prop) : Prop := ∃ k, x = .bl k ∧ Q k H
def zTup (xs : List V) (H : Hp) (Q : VK) : Prop := xs.length ≤ sizeLine ∧ ∀ p, H p = none → Q (.ref p) (upd H p (.tup xs))
def zLst (xs : List V) (H : Hp) (Q : VK) : Prop := xs.length ≤ sizeLine ∧ ∀ p, H p = none → Q (.ref p) (upd H p (.lst xs))
def zIf (k : Bool) (A B : Prop) : Prop := if k = true then A else B
def zDGet (x y : V) (H : Hp) (Q : VK) : Prop := ∃ a v, x = .ref a ∧ DGet H a y (some v) ∧ Q v H
def zDIn (y x : V) (H : Hp) (Q : VK) : Prop := ∃ a o, x = .ref a ∧ DGet H a y o ∧ Q (.bl o.isSome) H
def zDNotIn (y x : V) (H : Hp) (Q : VK) : Prop := ∃ a o, x = .ref a ∧ DGet H a y o ∧ Q (.bl (!o.isSome)) H
def zDPut (x y v : V) (H : Hp) (N : Hp → Prop) : Prop := ∃ a H4, x = .ref a ∧ DPut H a y v H4 ∧ N H4
def zFld (K : PySem.W.Frag) (x : V) (f : Str) (H : Hp) (Q : VK) : Prop := ∃ a C dx fs v, x = .ref a ∧ H a = some (.ins C dx fs) ∧ Cls K C ∧ NoAttr K C f ∧ fs.lookup f = some v ∧ Q v H
def zTy (K : PySem.W.Frag) (T : String) (x : V) (H : Hp) (N : Prop) : Prop := tyV K T x H ∧ N
def zGTup (K : PySem.W.Frag) (n : Nat) (t : TGs) (v : V) (σ : L2.St) (H : Hp) (Q : L2.St → Hp → Prop) : Prop := ∃ a xs, v = .ref a ∧ (SqT K H a xs ∨ SqL K H a xs) ∧ xs.length = n ∧ t xs σ H Q

section
variable {K : PySem.W.Frag} {σ : L2.St} {H : Hp} {Q : VK} {QB : Bool → Hp → Prop} {QA : List V → Hp → Prop} {N b c : L2.St → Hp → Prop} {r : VK} {ta tb tc te : TE} {t u : TT} {tt tu : TS} {tA : TA} {g : TG} {v w x y : V} {i j : Int} {n : Nat} {p q a : Addr} {xs ys : List V} {rr rr' : R2} {k : Bool} {A B : Prop}

/-! ### statements -/
theorem s_seq (h : tt ⟨tu ⟨N, r, b, c⟩, r, b, c⟩ σ H) : tSeq tt tu ⟨N, r, b, c⟩ σ H := h
theorem s_cut (Mid : L2.St → Hp → Prop) (h1 : tt ⟨Mid, r, b, c⟩ σ H) (h2 : ∀ σ' H', Mid σ' H' → tu ⟨N, r, b, c⟩ σ' H') : C8.tCut tt tu ⟨N, r, b, c⟩ σ H := ⟨Mid, h1, h2⟩
theorem s_next (h : N σ H) : tNext ⟨N, r, b, c⟩ σ H := h
theorem s_break (h : b σ H) : tBreak ⟨N, r, b, c⟩ σ H := h
theorem s_cont (h : c σ H) : tCont ⟨N, r, b, c⟩ σ H := h
theorem s_ret (h : te σ H r) : tRet te ⟨N, r, b, c⟩ σ H := h
theorem s_retN (h : r .non H) : tRetN ⟨N, r, b, c⟩ σ H := h
theorem s_drop (h : te σ H fun _ H1 => N σ H1) : tDrop te ⟨N, r, b, c⟩ σ H := h
theorem s_set (h : te σ H fun v H1 => N (σ.set n (some v)) H1) : tAsg te (gName n) ⟨N, r, b, c⟩ σ H := h
theorem s_asg (h : te σ H fun v H1 => g v σ H1 N) : tAsg te g ⟨N, r, b, c⟩ σ H := h
theorem s_if (h : t σ H fun k H1 => zIf k (tt ⟨N, r, b, c⟩ σ H1) (tu ⟨N, r, b, c⟩ σ H1)) : tIfS t tt tu ⟨N, r, b, c⟩ σ H := h
theorem s_dput {td ty tv : TE} (h : tv σ H fun v H1 => td σ H1 fun x H2 => ty σ H2 fun y H3 => zDPut x y v H3 fun H4 => N σ H4) : sDPut td ty tv ⟨N, r, b, c⟩ σ H := h
/-! ### targets -/
theorem s_gname {NN : L2.St → Hp → Prop} (h : NN (σ.set n (some v)) H) : gName n v σ H NN := h
theorem s_gsub {to ti : TE} {ts : TSet} {NN : L2.St → Hp → Prop} (h : to σ H fun o H1 => ti σ H1 fun i H2 => ts o i v H2 fun H3 => NN σ H3) : gSub to ti ts v σ H NN := h
theorem s_gtup {tg : TGs} {NN : L2.St → Hp → Prop} (hs : SqT K H a xs) (hl : xs.length = n) (h : tg xs σ H NN) : gTup K n tg (.ref a) σ H NN := ⟨a, xs, rfl, hs, hl, h⟩
theorem s_gnil {NN : L2.St → Hp → Prop} (h : NN σ H) : gNil [] σ H NN := ⟨rfl, h⟩
theorem s_gcons {t1 : TG} {t2 : TGs} {NN : L2.St → Hp → Prop} (h : t1 v σ H fun σ' H' => t2 xs σ' H' NN) : gCons t1 t2 (v :: xs) σ H NN := ⟨v, xs, rfl, h⟩
/-! ### expressions -/
theorem s_var (h : σ[n]? = some (some v)) (q : Q v H) : tVar n σ H Q := ⟨v, h, q⟩
theorem s_c (q : Q v H) : tC v σ H Q := q
theorem s_op (h : ta σ H fun x H1 => tb σ H1 fun y H2 => rr x y H2 Q) : tOp rr ta tb σ H Q := h
theorem s_un {ru : V → Hp → VK → Prop} (h : ta σ H fun x H1 => ru x H1 Q) : tUn ru ta σ H Q := h
theorem s_cb {rc : List V → Hp → VK → Prop} (h : tA σ H fun vs H1 => rc vs H1 Q) : tCB rc tA σ H Q := h
theorem s_nil (h : QA [] H) : tNil σ H QA := h
theorem s_cons {tr : TA} (h : ta σ H fun x H1 => tr σ H1 fun xs H2 => QA (x :: xs) H2) : tCons ta tr σ H QA := h
theorem s_call {sp : Sp} {E : XK} (h : tA σ H fun vs H1 => sp vs H1 Q E) : tCall sp [] E tA σ H Q := by
  show tA σ H fun vs H1 => sp (vs ++ []) H1 Q E
  simp only [List.append_nil]
  exact h
theorem s_tup (h : tA σ H fun xs H1 => zTup xs H1 Q) : tTup tA σ H Q := h
theorem s_lst (h : tA σ H fun xs H1 => zLst xs H1 Q) : tLst tA σ H Q := h
theorem s_ztup (h : Nat.ble xs.length sizeLine = true) (h2 : ∀ p, H p = none → Q (.ref p) (upd H p (.tup xs))) : zTup xs H Q := ⟨Nat.le_of_ble_eq_true h, h2⟩
theorem s_zlst (h : Nat.ble xs.length sizeLine = true) (h2 : ∀ p, H p = none → Q (.ref p) (upd H p (.lst xs))) : zLst xs H Q := ⟨Nat.le_of_ble_eq_true h, h2⟩
theorem s_test (h : te σ H fun x H1 => zB x H1 QB) : tTest te σ H QB := h
theorem s_B (h : te σ H fun x H1 => zB x H1 QB) : tB te σ H QB := h
theorem s_zB (h : QB k H) : zB (.bl k) H QB := ⟨k, rfl, h⟩
theorem s_and (h : t σ H fun k H1 => zIf k (u σ H1 QB) (QB false H1)) : tAnd t u σ H QB := h
theorem s_or (h : t σ H fun k H1 => zIf k (QB true H1) (u σ H1 QB)) : tOr t u σ H QB := h
theorem s_not (h : t σ H fun k H1 => QB (!k) H1) : tNot t σ H QB := h
theorem s_chain (h : ta σ H fun x H1 => tb σ H1 fun y H2 => rr x y H2 fun z H3 => zB z H3 fun k H3 => zIf k (tc σ H3 fun w H4 => rr' y w H4 Q) (Q (.bl false) H3)) : tChain rr rr' ta tb tc σ H Q := h
theorem s_ifE (h : t σ H fun k H1 => zIf k (ta σ H1 Q) (tb σ H1 Q)) : tIf t ta tb σ H Q := h
theorem s_bm {T : String} {rm : V → List V → Hp → VK → Prop} (h : ta σ H fun x H1 => zTy K T x H1 (tA σ H1 fun xs H2 => rm x xs H2 Q)) : tBM K T rm ta tA σ H Q := h
theorem s_bm0 {T : String} {rm : V → List V → Hp → VK → Prop} (h : ta σ H fun x H1 => zTy K T x H1 (rm x [] H1 Q)) : tBM0 K T rm ta σ H Q := h
theorem s_fld {f : Str} (h : ta σ H fun x H1 => zFld K x f H1 Q) : tFld K ta f σ H Q := h
theorem s_meth {C : Addr} {m : Str} {sp : Sp} {W : WX} (h : ta σ H fun x H1 => zSelf C m x H1 (tA σ H1 fun vs H2 => sp (x :: vs) H2 Q (WE W σ))) : tMethZ C m sp (WE W) ta tA σ H Q := h
theorem s_zself {C dx : Addr} {m : Str} {fs : List (Str × V)} {N1 : Prop} (h1 : H p = some (.ins C dx fs)) (h2 : fs.lookup m = none) (h : N1) : zSelf C m (.ref p) H N1 := ⟨p, dx, fs, rfl, h1, h2, h⟩
theorem s_make {C : Addr} {sp : Sp} {W : WX} (h : tA σ H fun vs H1 => zMade C H1 fun x H2 => sp (x :: vs) H2 (fun v H2 => v = .non ∧ Q x H2) (WE W σ)) : tMakeZ C sp (WE W) tA σ H Q := h
theorem s_fldset {f : Str} (h : tb σ H fun y H1 => ta σ H1 fun x H2 => zPutF K x f y H2 fun H3 => N σ H3) : sFld K ta tb f ⟨N, r, b, c⟩ σ H := h
theorem s_zputF {C dx : Addr} {fs : List (Str × V)} {f : Str} {N1 : Hp → Prop} (h1 : H p = some (.ins C dx fs)) (hc : Cls K C) (hn : NoAttr K C f) (hl : fs.length < 1000) (h : N1 (upd H p (.ins C dx (putF f y fs)))) : zPutF K (.ref p) f y H N1 := ⟨p, C, dx, fs, rfl, h1, hc, hn, hl, h⟩
def zRev (K : PySem.W.Frag) (x : V) (H : Hp) (Q : VK) : Prop := ∃ a xs, x = .ref a ∧ SqL K H a xs ∧ ∀ p, H p = none → Q (.ref p) (upd H p (.lst xs.reverse))
theorem s_rev (h : ta σ H fun x H1 => zRev K x H1 Q) : tRevL K ta σ H Q := h
theorem s_zrev (h1 : SqL K H p xs) (h : ∀ a, H a = none → Q (.ref a) (upd H a (.lst xs.reverse))) : zRev K (.ref p) H Q := ⟨p, xs, rfl, h1, h⟩
theorem s_pop {z : V} (h1 : H p = some (.lst xs)) (h2 : xs[xs.length - 1]? = some z) (h : Q z (upd H p (.lst xs.dropLast))) : rPop (.ref p) [] H Q := ⟨p, xs, z, rfl, rfl, h1, h2, h⟩
theorem s_reverse (h1 : H p = some (.lst xs)) (h : Q .non (upd H p (.lst xs.reverse))) : rReverse (.ref p) [] H Q := ⟨p, xs, rfl, rfl, h1, h⟩
def zMkO (C : Addr) (sp : Sp) (vs : List V) (H1 : Hp) (Q : XK) : Prop := vs.length ≤ 1000 ∧ ∀ a, H1 a = none → sp (.ref a :: (vs ++ [])) (upd H1 a (exo a C none))
  (fun v H2 => v = .non ∧ ∃ (d : Addr) (fs : List (Str × V)), H2 a = some (exo a C (some d)) ∧ H2 d = some (exd d fs) ∧ H1 d = none ∧ Q (.ref C) (some d) (upd (del H2 a) d (.xd fs))) (fun _ _ _ => False)
theorem s_raiseO {C : Addr} {sp : Sp} {W : WX} (h : tA σ H fun vs H1 => zMkO C sp vs H1 fun cls d H' => W cls d σ H') : sRaiseO C sp W tA ⟨N, r, b, c⟩ σ H := h
theorem s_tryAs {i : Nat} {cc : Value} {tbw : WX → TS} {ts : Addr → Value → Option Addr → TS} {W : WX} (h : tbw (wAs K cc i ts W ⟨N, r, b, c⟩) ⟨N, r, b, c⟩ σ H) : sTryAs K cc i tbw ts W ⟨N, r, b, c⟩ σ H := h
theorem s_raiseN {C : Addr} {W : WX} (h : W (.ref C) none σ H) : sRaiseN C W ⟨N, r, b, c⟩ σ H := h
theorem s_tryOnly {cc : Value} {tbw : WX → TS} {ts : Addr → Value → Option Addr → TS} {W : WX} (h : tbw (wOnly K cc ts W ⟨N, r, b, c⟩) ⟨N, r, b, c⟩ σ H) : sTryOnly K cc tbw ts W ⟨N, r, b, c⟩ σ H := h
theorem s_all {bs : List Bool} (h1 : SqL K H p (bs.map V.bl)) (h : Q (.bl (bs.all id)) H) : rAll K [.ref p] H Q := ⟨p, bs, rfl, h1, h⟩
def zVeI (K : PySem.W.Frag) (vs : List V) (H1 : Hp) (Q : VK) : Prop := ∃ (a C : Addr) (ws : List V), vs = .ref a :: ws ∧ ws.length ≤ 1000 ∧ OexC K C ∧ H1 a = some (exo a C none) ∧ Q .non H1
theorem s_vei (h : tA σ H fun vs H1 => zVeI K vs H1 Q) : tVeI K tA σ H Q := h
def zOst (K : PySem.W.Frag) (f : Str) (x y : V) (H2 : Hp) (NN : Hp → Prop) : Prop := ∃ a C : Addr, x = .ref a ∧ OexC K C ∧ PySem.W.findIn K (.ref C) f = some none ∧
  ((H2 a = some (exo a C none) ∧ ∀ dx, H2 dx = none → dx ≠ a → NN (upd (upd H2 dx (exd dx [(f, y)])) a (exo a C (some dx)))) ∨
    ∃ (dx : Addr) (fs : List (Str × V)), H2 a = some (exo a C (some dx)) ∧ H2 dx = some (exd dx fs) ∧ fs.length ≤ 900 ∧ NN (upd H2 dx (exd dx ((f, y) :: fs))))
theorem s_ost {f : Str} (h : tb σ H fun y H1 => ta σ H1 fun x H2 => zOst K f x y H2 fun H3 => N σ H3) : tOst K f ta tb ⟨N, r, b, c⟩ σ H := h
def zXf (a : Addr) (cls : Value) (d : Option Addr) (C : Addr) (f : Str) (x : V) (H1 : Hp) (Q : VK) : Prop := x = .ref a ∧ cls = .ref C ∧ ∃ (dd : Addr) (fs : List (Str × V)) (v : V), d = some dd ∧ H1 dd = some (.xd fs) ∧ fs.lookup f = some v ∧ Q v H1
theorem s_xf {cls : Value} {d : Option Addr} {C : Addr} {f : Str} (h : te σ H fun x H1 => zXf a cls d C f x H1 Q) : tXf a cls d C f te σ H Q := h
theorem s_rep (h1 : H p = some (.lst xs)) (h2 : -(2 ^ 63) ≤ i ∧ i < 2 ^ 63) (h3 : xs.length * i.toNat ≤ sizeLine) (h : ∀ a, H a = none → Q (.ref a) (upd H a (.lst (List.replicate i.toNat xs).flatten))) : rRep (.ref p) (.int i) H Q := ⟨p, i, xs, rfl, rfl, h1, h2.1, h2.2, h3, h⟩
theorem s_dget2 {td ty tx : TE} (h : td σ H fun x H1 => ∃ a, x = .ref a ∧ IsD H1 a ∧ ty σ H1 fun y H2 => tx σ H2 fun z H3 => ∃ o, DGet H3 a y o ∧ Q (o.getD z) H3) : tDGet2 td ty tx σ H Q := h
theorem s_dget {td ty : TE} (h : td σ H fun x H1 => ty σ H1 fun y H2 => zDGet x y H2 Q) : tDGet td ty σ H Q := h
theorem s_din {td ty : TE} (h : ty σ H fun y H1 => td σ H1 fun x H2 => zDIn y x H2 Q) : tDIn ty td σ H Q := h
theorem s_dnotin {td ty : TE} (h : ty σ H fun y H1 => td σ H1 fun x H2 => zDNotIn y x H2 Q) : tDNotIn ty td σ H Q := h
theorem s_dnew (h : ∀ p, H p = none → Q (.ref p) (upd H p (.dK []))) : tDNewK σ H Q := h
theorem s_disp {trs : List (TE × TE)} (h : ∀ p, H p = none → tPairs trs σ (upd H p (.dK [])) fun ps H2 => H2 p = some (.dK []) ∧ ∃ kvs : List (Key × V), ps = kvs.map (fun kv => (kV kv.1, kv.2)) ∧ kvs.length ≤ 15 ∧ Q (.ref p) (upd H2 p (.dK (mergeK [] kvs)))) : tDisp trs σ H Q := h
theorem s_pnil {QP : List (V × V) → Hp → Prop} (h : QP [] H) : tPairs [] σ H QP := h
theorem s_pcons {tk tv : TE} {trs : List (TE × TE)} {QP : List (V × V) → Hp → Prop} (h : tk σ H fun x H1 => tv σ H1 fun y H2 => tPairs trs σ H2 fun ps H3 => QP ((x, y) :: ps) H3) : tPairs ((tk, tv) :: trs) σ H QP := h
theorem s_andV (h : ta σ H fun x H1 => zB x H1 fun k H1 => zIf k (tb σ H1 Q) (Q (.bl false) H1)) : tAndV ta tb σ H Q := h
theorem s_orV (h : ta σ H fun x H1 => zB x H1 fun k H1 => zIf k (Q (.bl true) H1) (tb σ H1 Q)) : tOrV ta tb σ H Q := h
theorem s_notV (h : ta σ H fun x H1 => zB x H1 fun k H1 => Q (.bl (!k)) H1) : tNotV ta σ H Q := h
/-! ### by values -/
theorem s_rI0 {gg : Int → Int → V} (h : Q (gg i j) H) : rI0 gg (.int i) (.int j) H Q := ⟨i, j, rfl, rfl, h⟩
theorem s_rU {gg : Int → V} (h : Q (gg i) H) : rU gg (.int i) H Q := ⟨i, rfl, h⟩
theorem s_fdv (h0 : j ≠ 0 ∧ j.natAbs.log2 < 9000) (h : Q (.int (i.fdiv j)) H) : rFdv (.int i) (.int j) H Q := ⟨i, j, rfl, rfl, h0, h⟩
theorem s_mod (h0 : j ≠ 0) (h : Q (.int (i.fmod j)) H) : rMod (.int i) (.int j) H Q := ⟨i, j, rfl, rfl, h0, h⟩
theorem s_fdvp (h0 : 0 < j ∧ j < 2 ^ 64) (h : Q (.int (i / j)) H) : rFdv (.int i) (.int j) H Q := ⟨i, j, rfl, rfl, ⟨by omega, Nat.lt_of_lt_of_le (PySem.Flt.log2_lt_of (k := 64) (by decide) (by omega)) (by decide)⟩, by
  show Q (.int (i.fdiv j)) H
  rw [Int.fdiv_eq_ediv_of_nonneg i (by omega)]; exact h⟩
theorem s_modp (h0 : 0 < j) (h : Q (.int (i % j)) H) : rMod (.int i) (.int j) H Q := ⟨i, j, rfl, rfl, by omega, by
  show Q (.int (i.fmod j)) H
  rw [Int.fmod_eq_emod_of_nonneg i (by omega)]; exact h⟩
theorem s_mulp (h0 : (-18446744073709551616 < i ∧ i < 18446744073709551616) ∨ (-18446744073709551616 < j ∧ j < 18446744073709551616)) (h : Q (.int (i * j)) H) : rMul (.int i) (.int j) H Q := ⟨i, j, rfl, rfl, .inl h0, h⟩
theorem s_mul (h0 : CMul i j ∨ CMulW i j) (h : Q (.int (i * j)) H) : rMul (.int i) (.int j) H Q := ⟨i, j, rfl, rfl, h0, h⟩
theorem s_add_i (h : Q (.int (i + j)) H) : rAddU K (.int i) (.int j) H Q := .inl ⟨i, j, rfl, rfl, h⟩
theorem s_add_s {z w : Str} (h0 : z.length + w.length ≤ sizeLine) (h : Q (.str (z ++ w)) H) : rAddU K (.str z) (.str w) H Q := .inr (.inl ⟨z, w, rfl, rfl, h0, h⟩)
theorem s_add_l (h1 : H p = some (.lst xs)) (h2 : H q = some (.lst ys)) (h0 : xs.length + ys.length ≤ sizeLine) (h : ∀ a, H a = none → Q (.ref a) (upd H a (.lst (xs ++ ys)))) : rAddU K (.ref p) (.ref q) H Q := .inr (.inr (.inl ⟨p, q, xs, ys, rfl, rfl, h1, h2, h0, h⟩))
theorem s_add_t (h1 : SqT K H p xs) (h2 : SqT K H q ys) (hx : xs ≠ []) (hy : ys ≠ []) (h0 : xs.length + ys.length ≤ sizeLine) (h : ∀ a, H a = none → Q (.ref a) (upd H a (.tup (xs ++ ys)))) : rAddU K (.ref p) (.ref q) H Q := .inr (.inr (.inr ⟨p, q, xs, ys, rfl, rfl, h1, h2, hx, h0, fun e => absurd e hy, fun _ => h⟩))
theorem s_eq_i (h : Q (.bl (decide (i = j))) H) : rEqU K (.int i) (.int j) H Q := .inl ⟨rfl, by rw [show decide (V.int i = V.int j) = decide (i = j) by simp]; exact h⟩
theorem s_ne_i (h : Q (.bl (!decide (i = j))) H) : rNeU K (.int i) (.int j) H Q := .inl ⟨rfl, by rw [show decide (V.int i = V.int j) = decide (i = j) by simp]; exact h⟩
theorem s_eq_s {z w : Str} (h : Q (.bl (decide (z = w))) H) : rEqU K (.str z) (.str w) H Q := .inl ⟨rfl, by rw [show decide (V.str z = V.str w) = decide (z = w) by simp]; exact h⟩
theorem s_ne_s {z w : Str} (h : Q (.bl (!decide (z = w))) H) : rNeU K (.str z) (.str w) H Q := .inl ⟨rfl, by rw [show decide (V.str z = V.str w) = decide (z = w) by simp]; exact h⟩
theorem s_eq_v (h0 : scal x y = true) (h : Q (.bl (decide (x = y))) H) : rEqU K x y H Q := .inl ⟨h0, h⟩
theorem s_ne_v (h0 : scal x y = true) (h : Q (.bl (!decide (x = y))) H) : rNeU K x y H Q := .inl ⟨h0, h⟩
theorem s_eq_d {d e : PyData} (h1 : Dp K H x d) (h2 : Dp K H y e) (h3 : SeqAt.shaped d = true) (h4 : SeqAt.shaped e = true) (h : Q (.bl (PyData.eqv d e)) H) : rEqU K x y H Q := .inr ⟨d, e, h1, h2, h3, h4, h⟩
theorem s_ne_d {d e : PyData} (h1 : Dp K H x d) (h2 : Dp K H y e) (h3 : SeqAt.shaped d = true) (h4 : SeqAt.shaped e = true) (h : Q (.bl (!PyData.eqv d e)) H) : rNeU K x y H Q := .inr ⟨d, e, h1, h2, h3, h4, h⟩
theorem s_ix_l (h1 : SqL K H p xs) (h2 : atI xs i = some v) (h : Q v H) : rIx K (.ref p) (.int i) H Q := .inl ⟨p, xs, i, v, rfl, rfl, h1, h2, h⟩
theorem s_ix_t (h1 : SqT K H p xs) (h2 : atI xs i = some v) (h : Q v H) : rIx K (.ref p) (.int i) H Q := .inr (.inl ⟨p, xs, i, v, rfl, rfl, h1, h2, h⟩)
theorem s_ix_s {z : Str} {cc : Nat} (h1 : z.length ≤ sizeLine) (h2 : atI z.cps.toList i = some cc) (h : Q (.str ⟨#[cc]⟩) H) : rIx K (.str z) (.int i) H Q := .inr (.inr ⟨z, i, cc, rfl, rfl, h1, h2, h⟩)
theorem s_setL {N1 : Hp → Prop} (h1 : H p = some (.lst xs)) (h2 : ixN xs.length i = some n) (h : N1 (upd H p (.lst (xs.set n v)))) : rSetL (.ref p) (.int i) v H N1 := ⟨p, xs, i, n, rfl, rfl, h1, h2, h⟩
theorem s_len_l (h1 : SqL K H p xs) (h : Q (.int xs.length) H) : rLen K [.ref p] H Q := ⟨_, xs.length, rfl, .inl ⟨xs, h1, rfl⟩, h⟩
theorem s_len_t (h1 : SqT K H p xs) (h : Q (.int xs.length) H) : rLen K [.ref p] H Q := ⟨_, xs.length, rfl, .inr ⟨xs, h1, rfl⟩, h⟩
theorem s_len_s {z : Str} (h1 : z.length ≤ sizeLine) (h : Q (.int z.length) H) : rLen K [.str z] H Q := ⟨_, z.length, rfl, ⟨h1, rfl⟩, h⟩
theorem s_min2 (h : Q (.int (if j < i then j else i)) H) : rMin2 [.int i, .int j] H Q := ⟨i, j, rfl, h⟩
theorem s_max2 (h : Q (.int (if j > i then j else i)) H) : rMax2 [.int i, .int j] H Q := ⟨i, j, rfl, h⟩
theorem s_listof_l (h1 : SqL K H p xs) (h : ∀ l, H l = none → Q (.ref l) (upd H l (.lst xs))) : rListOf K [.ref p] H Q := ⟨p, xs, rfl, .inl h1, h⟩
theorem s_listof_t (h1 : SqT K H p xs) (h : ∀ l, H l = none → Q (.ref l) (upd H l (.lst xs))) : rListOf K [.ref p] H Q := ⟨p, xs, rfl, .inr h1, h⟩
theorem s_tupof_l (h1 : SqL K H p xs) (h : ∀ l, H l = none → Q (.ref l) (upd H l (.tup xs))) : rTupOf K [.ref p] H Q := ⟨p, xs, rfl, .inl ⟨h1, h⟩⟩
theorem s_tupof_t (h1 : SqT K H p xs) (h : Q (.ref p) H) : rTupOf K [.ref p] H Q := ⟨p, xs, rfl, .inr ⟨h1, h⟩⟩
theorem s_int1 (h : Q (.int i) H) : rInt1 [.int i] H Q := .inl ⟨i, rfl, h⟩
theorem s_int1b (h : Q (.int (if k then 1 else 0)) H) : rInt1 [.bl k] H Q := .inr ⟨k, rfl, h⟩
theorem s_abs (h : Q (.int (if i < 0 then -i else i)) H) : rAbs [.int i] H Q := ⟨i, rfl, h⟩
theorem s_strI (h0 : i.natAbs.log2 < 1920) (h : Q (.str (toString i)) H) : rStrI [.int i] H Q := ⟨i, rfl, h0, h⟩
theorem s_isi {cc : V} {ty uu : Value} {bb : Bool} (h1 : ClsV cc uu) (h2 : TyX K H x ty) (h3 : PySem.W.kitOne K ty uu = some bb) (h : Q (.bl bb) H) : rIsi2 K [x, cc] H Q := .inl ⟨x, cc, ty, uu, bb, rfl, h1, h2, h3, h⟩
theorem s_isN_i (h : Q (.bl false) H) : rIsNz (.int i) .non H Q := ⟨rfl, by rw [decide_eq_false (by intro z; cases z)]; exact h⟩
theorem s_isN_r (h : Q (.bl false) H) : rIsNz (.ref p) .non H Q := ⟨rfl, by rw [decide_eq_false (by intro z; cases z)]; exact h⟩
theorem s_isN_s {z : Str} (h : Q (.bl false) H) : rIsNz (.str z) .non H Q := ⟨rfl, by rw [decide_eq_false (by intro z; cases z)]; exact h⟩
theorem s_isN_n (h : Q (.bl true) H) : rIsNz .non .non H Q := ⟨rfl, by rw [decide_eq_true rfl]; exact h⟩
theorem s_notN_i (h : Q (.bl true) H) : rNotNz (.int i) .non H Q := ⟨rfl, by rw [decide_eq_false (by intro z; cases z)]; exact h⟩
theorem s_notN_r (h : Q (.bl true) H) : rNotNz (.ref p) .non H Q := ⟨rfl, by rw [decide_eq_false (by intro z; cases z)]; exact h⟩
theorem s_notN_s {z : Str} (h : Q (.bl true) H) : rNotNz (.str z) .non H Q := ⟨rfl, by rw [decide_eq_false (by intro z; cases z)]; exact h⟩
theorem s_notN_n (h : Q (.bl false) H) : rNotNz .non .non H Q := ⟨rfl, by rw [decide_eq_true rfl]; exact h⟩
theorem s_slL {te' : TE} {tl th : TO} {rs : V → Option Int → Option Int → Hp → VK → Prop} (h : te' σ H fun x H1 => tl σ H1 fun l H2 => th σ H2 fun u H3 => rs x l u H3 Q) : tSl rs te' tl th σ H Q := h
theorem s_nopart {QO : Option Int → Hp → Prop} (h : QO none H) : tNoPart σ H QO := h
def zPart (x : V) (H : Hp) (QO : Option Int → Hp → Prop) : Prop := ∃ i, x = .int i ∧ QO (some i) H
theorem s_part {QO : Option Int → Hp → Prop} (h : te σ H fun x H1 => zPart x H1 QO) : tPart te σ H QO := h
theorem s_zpart {QO : Option Int → Hp → Prop} (h : QO (some i) H) : zPart (.int i) H QO := ⟨i, rfl, h⟩
theorem s_cutL {lo hi : Option Int} (h1 : SqL K H a xs) (h : ∀ p, H p = none → Q (.ref p) (upd H p (.lst (cutV xs lo hi)))) : rSlL K (.ref a) lo hi H Q := ⟨a, xs, rfl, h1, h⟩
theorem s_isN (h : Q (.bl (decide (x = .non))) H) : rIsNz x .non H Q := ⟨rfl, h⟩
theorem s_notN (h : Q (.bl (!decide (x = .non))) H) : rNotNz x .non H Q := ⟨rfl, h⟩
theorem s_gun_t {tg : TGs} {NN : L2.St → Hp → Prop} (hs : SqT K H a xs) (hl : xs.length = n) (h : tg xs σ H NN) : gUn K n tg (.ref a) σ H NN := .inl ⟨a, xs, rfl, hs, hl, h⟩
theorem s_gun_l {tg : TGs} {NN : L2.St → Hp → Prop} (hs : SqL K H a xs) (hl : xs.length = n) (h : tg xs σ H NN) : gUn K n tg (.ref a) σ H NN := .inr ⟨a, xs, rfl, hs, hl, h⟩
theorem s_p18 (h : Q (.int 1000000000000000000) H) : rI CPow (fun i j => .int (i ^ j.toNat)) (.int 10) (.int 18) H Q := ⟨10, 18, rfl, rfl, by unfold CPow; decide, h⟩
theorem s_callS {W : WX} {sp : Sp} (h : tA σ H fun vs H1 => sp vs H1 Q (WE W σ)) : tCallS sp (WE W) tA σ H Q := h
theorem s_in_l (h1 : SqL K H p xs) (h2 : flatV x = true) (h3 : xs.all flatV = true) (h : Q (.bl (inV x xs)) H) : rIn K false x (.ref p) H Q := ⟨p, xs, rfl, .inl h1, h2, h3, h⟩
theorem s_in_t (h1 : SqT K H p xs) (h2 : flatV x = true) (h3 : xs.all flatV = true) (h : Q (.bl (inV x xs)) H) : rIn K false x (.ref p) H Q := ⟨p, xs, rfl, .inr h1, h2, h3, h⟩
theorem s_nin_l (h1 : SqL K H p xs) (h2 : flatV x = true) (h3 : xs.all flatV = true) (h : Q (.bl (!inV x xs)) H) : rIn K true x (.ref p) H Q := ⟨p, xs, rfl, .inl h1, h2, h3, h⟩
theorem s_nin_t (h1 : SqT K H p xs) (h2 : flatV x = true) (h3 : xs.all flatV = true) (h : Q (.bl (!inV x xs)) H) : rIn K true x (.ref p) H Q := ⟨p, xs, rfl, .inr h1, h2, h3, h⟩
theorem s_append (h1 : H p = some (.lst xs)) (h2 : xs.length < sizeLine) (h : Q .non (upd H p (.lst (xs ++ [v])))) : rAppend (.ref p) [v] H Q := ⟨p, xs, v, rfl, rfl, h1, h2, h⟩
theorem s_zTyL {N0 : Prop} (h1 : H p = some (.lst xs)) (h : N0) : zTy K "list" (.ref p) H N0 := ⟨.inl ⟨rfl, xs, .inl (.inl h1)⟩, h⟩
theorem s_zTyS {N0 : Prop} {z : Str} (h : N0) : zTy K "str" (.str z) H N0 := ⟨rfl, h⟩
theorem s_zTyL' {N0 : Prop} (h1 : SqL K H p xs) (h : N0) : zTy K "list" (.ref p) H N0 := ⟨.inl ⟨rfl, xs, h1⟩, h⟩
theorem s_join_l {z : Str} {ys : List Str} (h1 : SqL K H p (ys.map V.str)) (h2 : (ys.map (·.length)).sum + ys.length * z.length ≤ 16777216) (h : Q (.str (Txt.join z ys)) H) : rJoin K (.str z) [.ref p] H Q := ⟨z, p, ys, rfl, rfl, .inl h1, h2, h⟩
theorem s_index {y z : V} {j : Nat} (h1 : SqL K H p xs) (h2 : flatV y = true) (h3 : xs.all flatV = true) (h4 : xs[j]? = some z) (h5 : eqV z y = true) (h6 : ∀ (m : Nat) (z' : V), m < j → xs[m]? = some z' → eqV z' y = false) (h : Q (.int (j : Nat)) H) : rIndex K (.ref p) [y] H Q := ⟨p, xs, y, j, z, rfl, rfl, h1, h2, h3, h4, h5, h6, h⟩
theorem s_slS {z : Str} {lo hi : Option Int} (h1 : z.length ≤ sizeLine) (h : Q (.str (cutS z lo hi)) H) : rSlS (.str z) lo hi H Q := ⟨z, rfl, h1, h⟩
theorem s_zDGet_s {z : Str} {kvs : List (Key × V)} (h1 : Rd H p (.dK kvs)) (h2 : valV kvs (Sum.inr z : Key) = some v) (h : Q v H) : zDGet (.ref p) (.str z) H Q := ⟨p, v, rfl, .inl ⟨kvs, Sum.inr z, h1, rfl, h2.symm⟩, h⟩
theorem s_zDGet_i {kvs : List (Key × V)} (h1 : Rd H p (.dK kvs)) (h2 : valV kvs (Sum.inl i : Key) = some v) (h : Q v H) : zDGet (.ref p) (.int i) H Q := ⟨p, v, rfl, .inl ⟨kvs, Sum.inl i, h1, rfl, h2.symm⟩, h⟩
theorem s_zDIn_s {z : Str} {kvs : List (Key × V)} (h1 : Rd H p (.dK kvs)) (h : Q (.bl (valV kvs (Sum.inr z : Key)).isSome) H) : zDIn (.str z) (.ref p) H Q := ⟨p, _, rfl, .inl ⟨kvs, Sum.inr z, h1, rfl, rfl⟩, h⟩
theorem s_zDIn_i {kvs : List (Key × V)} (h1 : Rd H p (.dK kvs)) (h : Q (.bl (valV kvs (Sum.inl i : Key)).isSome) H) : zDIn (.int i) (.ref p) H Q := ⟨p, _, rfl, .inl ⟨kvs, Sum.inl i, h1, rfl, rfl⟩, h⟩
theorem s_zDNotIn_s {z : Str} {kvs : List (Key × V)} (h1 : Rd H p (.dK kvs)) (h : Q (.bl (!(valV kvs (Sum.inr z : Key)).isSome)) H) : zDNotIn (.str z) (.ref p) H Q := ⟨p, _, rfl, .inl ⟨kvs, Sum.inr z, h1, rfl, rfl⟩, h⟩
theorem s_zDNotIn_i {kvs : List (Key × V)} (h1 : Rd H p (.dK kvs)) (h : Q (.bl (!(valV kvs (Sum.inl i : Key)).isSome)) H) : zDNotIn (.int i) (.ref p) H Q := ⟨p, _, rfl, .inl ⟨kvs, Sum.inl i, h1, rfl, rfl⟩, h⟩
theorem s_zDPut_s {z : Str} {kvs : List (Key × V)} {N1 : Hp → Prop} (h1 : H p = some (.dK kvs)) (h2 : kvs.length < sizeLine) (h : N1 (upd H p (.dK (putK kvs (Sum.inr z : Key) v)))) : zDPut (.ref p) (.str z) v H N1 := ⟨p, _, rfl, .inl ⟨kvs, Sum.inr z, h1, rfl, h2, rfl⟩, h⟩
theorem s_zDPut_i {kvs : List (Key × V)} {N1 : Hp → Prop} (h1 : H p = some (.dK kvs)) (h2 : kvs.length < sizeLine) (h : N1 (upd H p (.dK (putK kvs (Sum.inl i : Key) v)))) : zDPut (.ref p) (.int i) v H N1 := ⟨p, _, rfl, .inl ⟨kvs, Sum.inl i, h1, rfl, h2, rfl⟩, h⟩
theorem s_zFld {C dx : Addr} {fs : List (Str × V)} {f : Str} (h1 : H p = some (.ins C dx fs)) (hc : Cls K C) (hn : NoAttr K C f) (hl : fs.lookup f = some v) (h : Q v H) : zFld K (.ref p) f H Q := ⟨p, C, dx, fs, v, rfl, h1, hc, hn, hl, h⟩
/-! ### ways -/
theorem s_ift (h : A) : zIf true A B := by unfold zIf; rw [if_pos rfl]; exact h
theorem s_iff (h : B) : zIf false A B := by unfold zIf; rw [if_neg Bool.false_ne_true]; exact h
theorem s_ifnn {D : Prop} [Decidable D] (h1 : ¬ D → A) (h2 : D → B) : zIf (!decide D) A B := by
  by_cases h : D
  · rw [decide_eq_true h]; exact s_iff (h2 h)
  · rw [decide_eq_false h]; exact s_ift (h1 h)
theorem s_nt (h : B) : zIf (!true) A B := s_iff h
theorem s_nf (h : A) : zIf (!false) A B := s_ift h
theorem s_ifd {D : Prop} [Decidable D] (h1 : D → A) (h2 : ¬ D → B) : zIf (decide D) A B := by
  by_cases h : D
  · rw [decide_eq_true h]; exact s_ift (h1 h)
  · rw [decide_eq_false h]; exact s_iff (h2 h)
theorem s_ifn {D : Prop} [Decidable D] (h1 : ¬ D → A) (h2 : D → B) : zIf (!decide D) A B := by
  by_cases h : D
  · rw [decide_eq_true h]; exact s_iff (h2 h)
  · rw [decide_eq_false h]; exact s_ift (h1 h)
theorem s_ifdt {D : Prop} [Decidable D] (h : D) (h1 : A) : zIf (decide D) A B := by rw [decide_eq_true h]; exact s_ift h1
theorem s_ifdf {D : Prop} [Decidable D] (h : ¬ D) (h1 : B) : zIf (decide D) A B := by rw [decide_eq_false h]; exact s_iff h1
theorem s_nft {D : Prop} [Decidable D] (h : D) (h1 : B) : zIf (!decide D) A B := by rw [decide_eq_true h]; exact s_iff h1
theorem s_nff {D : Prop} [Decidable D] (h : ¬ D) (h1 : A) : zIf (!decide D) A B := by rw [decide_eq_false h]; exact s_ift h1
theorem s_ifk (h1 : k = true → A) (h2 : k = false → B) : zIf k A B := by
  cases k with
  | true => exact s_ift (h1 rfl)
  | false => exact s_iff (h2 rfl)
theorem s_ifkt (h : k = true) (h1 : A) : zIf k A B := by subst h; exact s_ift h1
theorem s_ifkf (h : k = false) (h1 : B) : zIf k A B := by subst h; exact s_iff h1
/-! ### loops -/
/-- a loop whose iterator stands -/
def zLoop (J : It) (g : TG) (tb : TS) (D : Ends) (σ : L2.St) (H1 : Hp) : Prop := ∃ W : Nat → Nat → L2.St → Hp → Prop, (∃ m, W 0 m σ H1) ∧ ∀ i m σ H, W i m σ H →
  (J.stop i H ∧ D.nx σ H) ∨ (J.go i H ∧ ∃ N : L2.St → Hp → Prop, (∀ σ' H', N σ' H' → ∃ m', m' < m ∧ W (i + 1) m' σ' H') ∧ ∀ x H', J.yld i H x H' → g x σ H' fun σ2 H2 => tb { D with nx := N, ct := N, bk := D.nx } σ2 H2)
def zRng1 (vs : List V) (H : Hp) (R : It → Hp → Prop) : Prop := ∃ j : Int, vs = [.int j] ∧ -(2 ^ 62) ≤ j ∧ j < 2 ^ 62 ∧ R (Itr 0 j.toNat) H
def zRng2 (vs : List V) (H : Hp) (R : It → Hp → Prop) : Prop := ∃ i j : Int, vs = [.int i, .int j] ∧ (-(2 ^ 62) ≤ i ∧ i < 2 ^ 62 ∧ -(2 ^ 62) ≤ j ∧ j < 2 ^ 62) ∧ R (Itr i (j - i).toNat) H
def zItL (K : PySem.W.Frag) (x : V) (H : Hp) (R : It → Hp → Prop) : Prop := ∃ a, x = .ref a ∧ (∃ xs, SqL K H a xs) ∧ R (Itl K a) H
def zItT (K : PySem.W.Frag) (x : V) (H : Hp) (R : It → Hp → Prop) : Prop := ∃ a, x = .ref a ∧ (∃ xs, SqT K H a xs) ∧ R (Itt K a) H
/-- a comprehension whose iterator stands -/
def zLc (J : It) (g : TG) (t : TT) (te : TE) (vs : List Nat) (σ : L2.St) (H1 : Hp) (Q : VK) : Prop := ∀ D, H1 D = none → ∃ W : Nat → Nat → Hp → Prop, (∃ m, W 0 m (upd H1 D (.lst []))) ∧ ∀ i m H, W i m H →
  (J.stop i H ∧ Q (.ref D) H) ∨ (J.go i H ∧ ∃ Nx : Hp → Prop, (∀ H', Nx H' → ∃ m', m' < m ∧ W (i + 1) m' H') ∧ ∀ x H', J.yld i H x H' → g x (wipe σ vs) H' fun σ2 H2 => wipe σ2 vs = wipe σ vs ∧ t σ2 H2 fun b H3 =>
    if b = true then te σ2 H3 fun y H4 => ∃ acc, H4 D = some (.lst acc) ∧ acc.length < sizeLine ∧ Nx (upd H4 D (.lst (acc ++ [y]))) else Nx H3)
def zWipe (vs : List Nat) (σ σ2 : L2.St) (A : Prop) : Prop := wipe σ2 vs = wipe σ vs ∧ A
def zAcc (D : Addr) (y : V) (H : Hp) (P : Hp → Prop) : Prop := ∃ acc, H D = some (.lst acc) ∧ acc.length < sizeLine ∧ P (upd H D (.lst (acc ++ [y])))
theorem s_lc {wi : TI} {vs : List Nat} (h : wi σ H fun J H1 => zLc J g t te vs σ H1 Q) : tLc wi g t te vs σ H Q := h
theorem s_yes (h : QB true H) : tYes σ H QB := h
theorem s_wipe {vs : List Nat} {σ2 : L2.St} (h : wipe σ2 vs = wipe σ vs) (h1 : A) : zWipe vs σ σ2 A := ⟨h, h1⟩
theorem s_acc {D : Addr} {acc : List V} {P : Hp → Prop} (h1 : H D = some (.lst acc)) (h2 : acc.length < sizeLine) (h : P (upd H D (.lst (acc ++ [y])))) : zAcc D y H P := ⟨acc, h1, h2, h⟩
theorem lc_rng {lo : Int} {vs : List Nat} (Pv : Addr → Nat → Hp → Prop) (h0 : ∀ D, H D = none → Pv D 0 (upd H D (.lst [])))
    (hs : ∀ D i H', H D = none → i < n → Pv D i H' → g (.int (lo + (i : Int))) (wipe σ vs) H' fun σ2 H2 => zWipe vs σ σ2 (t σ2 H2 fun k H3 => zIf k (te σ2 H3 fun y H4 => zAcc D y H4 (Pv D (i + 1))) (Pv D (i + 1) H3)))
    (hd : ∀ D H', H D = none → Pv D n H' → Q (.ref D) H') : zLc (Itr lo n) g t te vs σ H Q := fun D hD =>
  lc_range (Pv D) (h0 D hD) (fun i H' hi hp => hs D i H' hD hi hp) (fun H' hp => hd D H' hD hp)
theorem lc_lst {vs : List Nat} (xs : List V) (Pv : Addr → Nat → Hp → Prop) (h0 : ∀ D, H D = none → Pv D 0 (upd H D (.lst []))) (hl : ∀ D i H', H D = none → i ≤ xs.length → Pv D i H' → SqL K H' p xs)
    (hs : ∀ D i x H', H D = none → xs[i]? = some x → Pv D i H' → g x (wipe σ vs) H' fun σ2 H2 => zWipe vs σ σ2 (t σ2 H2 fun k H3 => zIf k (te σ2 H3 fun y H4 => zAcc D y H4 (Pv D (i + 1))) (Pv D (i + 1) H3)))
    (hd : ∀ D H', H D = none → Pv D xs.length H' → Q (.ref D) H') : zLc (Itl K p) g t te vs σ H Q := fun D hD =>
  lc_list (xs := xs) (Pv D) (h0 D hD) (fun i H' hi hp => hl D i H' hD hi hp) (fun i x H' hx hp => hs D i x H' hD hx hp) (fun H' hp => hd D H' hD hp)
theorem lc_tp {vs : List Nat} (xs : List V) (Pv : Addr → Nat → Hp → Prop) (h0 : ∀ D, H D = none → Pv D 0 (upd H D (.lst []))) (hl : ∀ D i H', H D = none → i ≤ xs.length → Pv D i H' → SqT K H' p xs)
    (hs : ∀ D i x H', H D = none → xs[i]? = some x → Pv D i H' → g x (wipe σ vs) H' fun σ2 H2 => zWipe vs σ σ2 (t σ2 H2 fun k H3 => zIf k (te σ2 H3 fun y H4 => zAcc D y H4 (Pv D (i + 1))) (Pv D (i + 1) H3)))
    (hd : ∀ D H', H D = none → Pv D xs.length H' → Q (.ref D) H') : zLc (Itt K p) g t te vs σ H Q := fun D hD =>
  lc_tup (xs := xs) (Pv D) (h0 D hD) (fun i H' hi hp => hl D i H' hD hi hp) (fun i x H' hx hp => hs D i x H' hD hx hp) (fun H' hp => hd D H' hD hp)
theorem cut_nat {a b : Nat} {xs : List V} (h : a ≤ b) (h2 : b ≤ xs.length) : cutV xs (some (a : Int)) (some (b : Int)) = (xs.drop a).take (b - a) := by
  unfold cutV
  rw [HT.sIx_nat, HT.sIx_nat, Nat.min_eq_left h2, Nat.min_eq_left (Nat.le_trans h h2)]
theorem s_fdvq (h0 : 0 < j ∧ j < 10 ^ 70) (h : Q (.int (i / j)) H) : rFdv (.int i) (.int j) H Q := ⟨i, j, rfl, rfl, ⟨by omega, Nat.lt_of_lt_of_le (PySem.Flt.log2_lt_of (k := 240) (by decide) (by omega)) (by decide)⟩, by
  show Q (.int (i.fdiv j)) H
  rw [Int.fdiv_eq_ediv_of_nonneg i (by omega)]; exact h⟩
theorem s_extend {b' : Addr} {zs : List V} (h1 : H p = some (.lst xs)) (h2 : H b' = some (.lst zs)) (h3 : xs.length + zs.length ≤ sizeLine) (h : Q .non (upd H p (.lst (xs ++ zs)))) : rExtend (.ref p) [.ref b'] H Q := ⟨p, b', xs, zs, rfl, rfl, h1, h2, h3, h⟩
theorem s_clear (h1 : H p = some (.lst xs)) (h : Q .non (upd H p (.lst []))) : rClear (.ref p) [] H Q := ⟨p, xs, rfl, rfl, h1, h⟩
theorem s_for {wi : TI} {tb1 : TS} (h : wi σ H fun J H1 => zLoop J g tb1 ⟨N, r, b, c⟩ σ H1) : tFor wi g tb1 ⟨N, r, b, c⟩ σ H := h
theorem s_rng1 {R : It → Hp → Prop} (h : tA σ H fun vs H1 => zRng1 vs H1 R) : iRng1 tA σ H R := h
theorem s_rng2 {R : It → Hp → Prop} (h : tA σ H fun vs H1 => zRng2 vs H1 R) : iRng2 tA σ H R := h
theorem s_itl {R : It → Hp → Prop} (h : te σ H fun x H1 => zItL K x H1 R) : iList K te σ H R := h
theorem s_itt {R : It → Hp → Prop} (h : te σ H fun x H1 => zItT K x H1 R) : iTup K te σ H R := h
theorem s_zrng1 {R : It → Hp → Prop} (h1 : -(2 ^ 62) ≤ j ∧ j < 2 ^ 62) (h : R (Itr 0 j.toNat) H) : zRng1 [.int j] H R := ⟨j, rfl, h1.1, h1.2, h⟩
theorem s_zrng2 {R : It → Hp → Prop} (h1 : -(2 ^ 62) ≤ i ∧ i < 2 ^ 62 ∧ -(2 ^ 62) ≤ j ∧ j < 2 ^ 62) (h : R (Itr i (j - i).toNat) H) : zRng2 [.int i, .int j] H R := ⟨i, j, rfl, h1, h⟩
theorem s_zitl {R : It → Hp → Prop} (h1 : SqL K H p xs) (h : R (Itl K p) H) : zItL K (.ref p) H R := ⟨p, rfl, ⟨xs, h1⟩, h⟩
theorem s_zitt {R : It → Hp → Prop} (h1 : SqT K H p xs) (h : R (Itt K p) H) : zItT K (.ref p) H R := ⟨p, rfl, ⟨xs, h1⟩, h⟩
theorem loop_range {tb1 : TS} {lo : Int} (Pv : Nat → L2.St → Hp → Prop) (h0 : Pv 0 σ H) (hs : ∀ i σ' H', i < n → Pv i σ' H' → g (.int (lo + (i : Int))) σ' H' fun σ2 H2 => tb1 ⟨Pv (i + 1), r, N, Pv (i + 1)⟩ σ2 H2)
    (hd : ∀ σ' H', Pv n σ' H' → N σ' H') : zLoop (Itr lo n) g tb1 ⟨N, r, b, c⟩ σ H := for_range (D := ⟨N, r, b, c⟩) Pv h0 hs hd
theorem loop_list {tb1 : TS} (xs : List V) (Pv : Nat → L2.St → Hp → Prop) (h0 : Pv 0 σ H) (hl : ∀ i σ' H', i ≤ xs.length → Pv i σ' H' → SqL K H' p xs)
    (hs : ∀ i x σ' H', xs[i]? = some x → Pv i σ' H' → g x σ' H' fun σ2 H2 => tb1 ⟨Pv (i + 1), r, N, Pv (i + 1)⟩ σ2 H2) (hd : ∀ σ' H', Pv xs.length σ' H' → N σ' H') : zLoop (Itl K p) g tb1 ⟨N, r, b, c⟩ σ H :=
  for_list (D := ⟨N, r, b, c⟩) (xs := xs) Pv h0 hl hs hd
theorem loop_tup {tb1 : TS} (xs : List V) (Pv : Nat → L2.St → Hp → Prop) (h0 : Pv 0 σ H) (hl : ∀ i σ' H', i ≤ xs.length → Pv i σ' H' → SqT K H' p xs)
    (hs : ∀ i x σ' H', xs[i]? = some x → Pv i σ' H' → g x σ' H' fun σ2 H2 => tb1 ⟨Pv (i + 1), r, N, Pv (i + 1)⟩ σ2 H2) (hd : ∀ σ' H', Pv xs.length σ' H' → N σ' H') : zLoop (Itt K p) g tb1 ⟨N, r, b, c⟩ σ H :=
  for_tup (D := ⟨N, r, b, c⟩) (xs := xs) Pv h0 hl hs hd
def zBody (W : Nat → L2.St → Hp → Prop) (m : Nat) (tb : TS) (D : Ends) (σ : L2.St) (H1 : Hp) : Prop := ∃ N1 : L2.St → Hp → Prop, (∀ σ' H', N1 σ' H' → ∃ m', m' < m ∧ W m' σ' H') ∧ tb { D with nx := N1, ct := N1, bk := D.nx } σ H1
theorem s_zbody {W : Nat → L2.St → Hp → Prop} {m : Nat} {tb1 : TS} (h : tb1 ⟨fun σ2 H2 => ∃ m', m' < m ∧ W m' σ2 H2, r, N, fun σ2 H2 => ∃ m', m' < m ∧ W m' σ2 H2⟩ σ H) : zBody W m tb1 ⟨N, r, b, c⟩ σ H := ⟨_, fun σ2 H2 z => z, h⟩
theorem s_while {tb1 : TS} (W : Nat → L2.St → Hp → Prop) (m0 : Nat) (h0 : W m0 σ H)
    (hs : ∀ (m : Nat) σ' H', W m σ' H' → t σ' H' fun k H1 => zIf k (zBody W m tb1 ⟨N, r, b, c⟩ σ' H1) (N σ' H1)) : tWhile t tb1 ⟨N, r, b, c⟩ σ H := ⟨W, ⟨m0, h0⟩, fun m σ' H' w => hs m σ' H' w⟩
/-! ### heaps -/
theorem up_new {H : Hp} {q a : Addr} {o u : HO} (hq : H q = none) (h : H a = some o) : upd H q u a = some o := by rw [upd_ne (ne_of_none h hq)]; exact h
theorem up_far {H : Hp} {q a : Addr} {o u : HO} (hn : a ≠ q) (h : H a = some o) : upd H q u a = some o := by rw [upd_ne hn]; exact h
theorem sm_rd {H H' : Hp} {a : Addr} {o : HO} (S : Same H H') (h : H a = some o) : H' a = some o := S a o h
theorem same_new {H : Hp} {p : Addr} {o : HO} (h : H p = none) : Same H (upd H p o) := fun b u q => by rw [upd_ne (ne_of_none q h)]; exact q
def Fz : HO → Prop
  | .frz _ _ => True
  | _ => False
/-- all but what stands at p (and isn't locked) is as it was -/
def But (p : Addr) (H H' : Hp) : Prop := ∀ b o, (b ≠ p ∨ Fz o) → H b = some o → H' b = some o
theorem But.refl (p : Addr) (H : Hp) : But p H H := fun _ _ _ h => h
theorem But.trans {p : Addr} {H H1 H2 : Hp} (a : But p H H1) (b : But p H1 H2) : But p H H2 := fun c o n h => b c o n (a c o n h)
theorem But.rd {p : Addr} {H H' : Hp} {a : Addr} {o : HO} (S : But p H H') (n : a ≠ p) (h : H a = some o) : H' a = some o := S a o (.inl n) h
theorem But.of {p : Addr} {H H' : Hp} (S : Same H H') : But p H H' := fun b o _ h => S b o h
theorem But.up {p : Addr} {H H' : Hp} {o u : HO} (S : But p H H') (hp : H' p = some u) (nf : ¬ Fz u) : But p H (L2.upd H' p o) := fun b v n h => by
  have h' := S b v n h
  by_cases e : b = p
  · subst e
    rw [hp] at h'
    cases h'
    rcases n with n | n
    · exact absurd rfl n
    · exact absurd n nf
  · rw [upd_ne e]; exact h'
theorem But.new {p q : Addr} {H H' : Hp} {o : HO} (S : But p H H') (hq : H' q = none) : But p H (L2.upd H' q o) := fun b u n h => by rw [upd_ne (ne_of_none (S b u n h) hq)]; exact S b u n h
theorem But.none {p b : Addr} {H H' : Hp} (S : But p H H') (n : b ≠ p) (h : H' b = Option.none) : H b = Option.none := by
  cases e : H b with
  | none => rfl
  | some o => rw [S b o (.inl n) e] at h; cases h
theorem But.sqL {K : PySem.W.Frag} {p : Addr} {H H' : Hp} {a : Addr} {xs : List V} (S : But p H H') (n : a ≠ p) (h : SqL K H a xs) : SqL K H' a xs := by
  rcases h with (h | ⟨o, h⟩) | h
  · exact .inl (.inl (S _ _ (.inl n) h))
  · exact .inl (.inr ⟨o, S _ _ (.inl n) h⟩)
  · exact .inr h
theorem But.sqT {K : PySem.W.Frag} {p : Addr} {H H' : Hp} {a : Addr} {xs : List V} (S : But p H H') (n : a ≠ p) (h : SqT K H a xs) : SqT K H' a xs := by
  rcases h with (h | ⟨o, h⟩) | h
  · exact .inl (.inl (S _ _ (.inl n) h))
  · exact .inl (.inr ⟨o, S _ _ (.inl n) h⟩)
  · exact .inr h
theorem same_sqT {K : PySem.W.Frag} {H H' : Hp} {a : Addr} {xs : List V} (S : Same H H') (h : SqT K H a xs) : SqT K H' a xs := by
  rcases h with (h | ⟨o, h⟩) | h
  · exact .inl (.inl (S _ _ h))
  · exact .inl (.inr ⟨o, S _ _ h⟩)
  · exact .inr h
/-- the law's script: locked, or of the written part -/
def Scr (K : PySem.W.Frag) (H : Hp) (a : Addr) (ns : List Int) : Prop := (∃ o, H a = some (.frz o (.lst (ns.map V.int)))) ∨
  ∃ (o : Obj) (its : Array Value) (n : Nat), K.lookup a = some o ∧ o.cls = .type "list" ∧ o.dict = none ∧ o.data = .seq its n ∧ its.size ≤ sizeLine ∧ Vals (ns.map V.int) its.toList
theorem Scr.of {K : PySem.W.Frag} {H : Hp} {a : Addr} {ns : List Int} (h0 : Only H) (h : SqL K H a (ns.map V.int)) : Scr K H a ns := by
  rcases h with (h | ⟨o, h⟩) | h
  · rcases h0 a with e | ⟨o, xs, e⟩
    · rw [h] at e; cases e
    · rw [h] at e; cases e
  · exact .inl ⟨o, h⟩
  · exact .inr h
theorem Scr.sq {K : PySem.W.Frag} {H : Hp} {a : Addr} {ns : List Int} (h : Scr K H a ns) : SqL K H a (ns.map V.int) := by
  rcases h with ⟨o, h⟩ | h
  · exact .inl (.inr ⟨o, h⟩)
  · exact .inr h
theorem Scr.but {K : PySem.W.Frag} {H H' : Hp} {p a : Addr} {ns : List Int} (S : But p H H') (h : Scr K H a ns) : Scr K H' a ns := by
  rcases h with ⟨o, h⟩ | h
  · exact .inl ⟨o, S _ _ (.inr trivial) h⟩
  · exact .inr h
theorem Scr.same {K : PySem.W.Frag} {H H' : Hp} {a : Addr} {ns : List Int} (S : Same H H') (h : Scr K H a ns) : Scr K H' a ns := by
  rcases h with ⟨o, h⟩ | h
  · exact .inl ⟨o, S _ _ h⟩
  · exact .inr h
/-- a change of what stands at p, the heap behind it by a name -/
theorem up_but {H : Hp} {p : Addr} {o u : HO} (h : H p = some u) (nf : ¬ Fz u) : But p H (L2.upd H p o) := (But.refl p H).up h nf
theorem c_setL {N1 : Hp → Prop} (n : Nat) (ys : List V) (h1 : H p = some (.lst xs)) (h2 : ixN xs.length i = some n) (h3 : xs.set n v = ys) (h : ∀ H', But p H H' → H' p = some (.lst ys) → N1 H') : rSetL (.ref p) (.int i) v H N1 :=
  s_setL h1 h2 (h _ (up_but h1 (fun z => z)) (by rw [h3]; exact upd_same))
theorem c_acc {D : Addr} {acc : List V} {P : Hp → Prop} (h1 : H D = some (.lst acc)) (h2 : acc.length < sizeLine) (h : ∀ H', But D H H' → H' D = some (.lst (acc ++ [y])) → P H') : zAcc D y H P :=
  s_acc h1 h2 (h _ (up_but h1 (fun z => z)) upd_same)
theorem c_fld {C dx : Addr} {fs gs : List (Str × V)} {f : Str} {N1 : Hp → Prop} (h1 : H p = some (.ins C dx fs)) (hc : Cls K C) (hn : NoAttr K C f) (hl : fs.length < 1000) (h3 : putF f y fs = gs) (h : ∀ H', But p H H' → H' p = some (.ins C dx gs) → N1 H') : zPutF K (.ref p) f y H N1 :=
  s_zputF h1 hc hn hl (h _ (up_but h1 (fun z => z)) (by rw [h3]; exact upd_same))
theorem c_extend {b' : Addr} {zs : List V} (h1 : H p = some (.lst xs)) (h2 : H b' = some (.lst zs)) (h3 : xs.length + zs.length ≤ sizeLine) (h : ∀ H', But p H H' → H' p = some (.lst (xs ++ zs)) → Q .non H') : rExtend (.ref p) [.ref b'] H Q :=
  s_extend h1 h2 h3 (h _ (up_but h1 (fun z => z)) upd_same)
theorem c_clear (h1 : H p = some (.lst xs)) (h : ∀ H', But p H H' → H' p = some (.lst []) → Q .non H') : rClear (.ref p) [] H Q :=
  s_clear h1 (h _ (up_but h1 (fun z => z)) upd_same)
theorem c_pop {z : V} (h1 : H p = some (.lst xs)) (h2 : xs[xs.length - 1]? = some z) (h : ∀ H', But p H H' → H' p = some (.lst xs.dropLast) → Q z H') : rPop (.ref p) [] H Q :=
  s_pop h1 h2 (h _ (up_but h1 (fun z => z)) upd_same)
theorem c_reverse (h1 : H p = some (.lst xs)) (h : ∀ H', But p H H' → H' p = some (.lst xs.reverse) → Q .non H') : rReverse (.ref p) [] H Q :=
  s_reverse h1 (h _ (up_but h1 (fun z => z)) upd_same)
/-- all but what stands at p or q -/
def But2 (p q : Addr) (H H' : Hp) : Prop := ∀ b o, ((b ≠ p ∧ b ≠ q) ∨ Fz o) → H b = some o → H' b = some o
theorem But2.left {p q : Addr} {H H' : Hp} (B : But p H H') : But2 p q H H' := fun b o n h => B b o (n.imp And.left id) h
theorem But2.right {p q : Addr} {H H' : Hp} (B : But q H H') : But2 p q H H' := fun b o n h => B b o (n.imp And.right id) h
theorem But2.trans {p q : Addr} {H H1 H2 : Hp} (a : But2 p q H H1) (b : But2 p q H1 H2) : But2 p q H H2 := fun c o n h => b c o n (a c o n h)
theorem But2.of {p q : Addr} {H H' : Hp} (S : Same H H') : But2 p q H H' := fun b o _ h => S b o h
theorem But2.rd {p q : Addr} {H H' : Hp} {a : Addr} {o : HO} (S : But2 p q H H') (n : a ≠ p) (m : a ≠ q) (h : H a = some o) : H' a = some o := S a o (.inl ⟨n, m⟩) h
theorem But2.new {p q a : Addr} {H H' : Hp} {o : HO} (S : But2 p q H H') (ha : H' a = none) : But2 p q H (L2.upd H' a o) := S.trans (But2.of (same_new ha))
theorem But2.own {p q l : Addr} {H H1 H2 : Hp} (a : But2 p q H H1) (b : But l H1 H2) (hl : H l = none) : But2 p q H H2 := fun c o n h => b c o (.inl (ne_of_none h hl)) (a c o n h)
theorem But2.one {p q : Addr} {H H' : Hp} (B : But2 p q H H') (hq : H q = none) : But p H H' := fun c o n h => B c o (n.imp (fun z => ⟨z, ne_of_none h hq⟩) id) h
theorem But2.none {p q b : Addr} {H H' : Hp} (S : But2 p q H H') (n : b ≠ p) (m : b ≠ q) (h : H' b = Option.none) : H b = Option.none := by
  cases e : H b with
  | none => rfl
  | some o => rw [S b o (.inl ⟨n, m⟩) e] at h; cases h
theorem passC {X : Cx} (σ : L2.St) : PassesAt (L2.CX X.prog X.w) X σ (WE (fun _ _ _ _ => False) σ) := fun pins H s e s' I c => passL pins σ H s e s' I c
theorem c_append (h1 : H p = some (.lst xs)) (h2 : xs.length < sizeLine) (h : ∀ H', But p H H' → H' p = some (.lst (xs ++ [v])) → Q .non H') : rAppend (.ref p) [v] H Q :=
  s_append h1 h2 (h _ (up_but h1 (fun z => z)) upd_same)
/-- a change of what wasn't there at first -/
theorem But.own {p l : Addr} {H H1 H2 : Hp} (a : But p H H1) (b : But l H1 H2) (hl : H l = Option.none) : But p H H2 := fun c o n h => b c o (.inl (ne_of_none h hl)) (a c o n h)
theorem same_own {l : Addr} {H H1 H2 : Hp} (a : Same H H1) (b : But l H1 H2) (hl : H l = Option.none) : Same H H2 := fun c o h => b c o (.inl (ne_of_none h hl)) (a c o h)
/-- tuples stay -/
def TupS (H H' : Hp) : Prop := ∀ b ys, H b = some (.tup ys) → H' b = some (.tup ys)
theorem TupS.refl (H : Hp) : TupS H H := fun _ _ h => h
theorem TupS.trans {H H1 H2 : Hp} (a : TupS H H1) (b : TupS H1 H2) : TupS H H2 := fun c o h => b c o (a c o h)
theorem TupS.new {q : Addr} {H : Hp} {o : HO} (hq : H q = none) : TupS H (L2.upd H q o) := fun b ys h => same_new hq b _ h
theorem TupS.of {H H' : Hp} (S : Same H H') : TupS H H' := fun b _ h => S b _ h
theorem TupS.but {p : Addr} {H H' : Hp} {o : HO} (S : But p H H') (hp : H p = some o) (n : ∀ ys, o ≠ .tup ys) : TupS H H' := fun b ys h => S b _ (.inl fun e => by
  subst e
  rw [hp] at h
  exact n ys (Option.some.inj h)) h
theorem TupS.butN {p : Addr} {H H' : Hp} (S : But p H H') (hp : H p = none) : TupS H H' := fun b ys h => S b _ (.inl fun e => by
  subst e
  rw [hp] at h
  cases h) h
theorem But2.tups {p q : Addr} {H H' : Hp} {o u : HO} (B : But2 p q H H') (hp : H p = some o) (np : ∀ ys, o ≠ .tup ys) (hq : H q = some u) (nq : ∀ ys, u ≠ .tup ys) : TupS H H' := fun b ys h =>
  B b _ (.inl ⟨ne_of h hp (fun z => np ys z.symm), ne_of h hq (fun z => nq ys z.symm)⟩) h
/-- an item of a list of ints, at an open place within -/
theorem at_ints (ns : List Int) {i : Int} (h0 : 0 ≤ i) (h1 : i < ns.length) : ∃ w, w ∈ ns ∧ atI (ns.map V.int) i = some (.int w) := by
  refine ⟨ns[i.toNat]'(by omega), List.getElem_mem _, ?_⟩
  exact at_of (j := i.toNat) (by omega) (by rw [List.getElem?_map, List.getElem?_eq_getElem (by omega)]; rfl)
theorem putK_len {kvs : List (Key × V)} {k : Key} {v w : V} (h : valV kvs k = some w) : (putK kvs k v).length = kvs.length := by
  unfold putK
  rw [valV_any, h]
  simp
theorem valV_put_ne {kvs : List (Key × V)} {k j : Key} {v : V} (h : ¬ j = k) : valV (putK kvs k v) j = valV kvs j := by rw [valV_put, if_neg h]
theorem valV_put_eq {kvs : List (Key × V)} {k : Key} {v : V} : valV (putK kvs k v) k = some v := by rw [valV_put, if_pos rfl]
theorem c_dput_s {z : Str} {kvs : List (Key × V)} {N1 : Hp → Prop} (h1 : H p = some (.dK kvs)) (h2 : kvs.length < sizeLine) (h : ∀ H', But p H H' → H' p = some (.dK (putK kvs (Sum.inr z : Key) v)) → N1 H') : zDPut (.ref p) (.str z) v H N1 :=
  s_zDPut_s h1 h2 (h _ (up_but h1 (fun z => z)) upd_same)
theorem fdiv_abs (a b : Int) : (a.fdiv b).natAbs ≤ a.natAbs + 1 := Nat.le_succ_of_le (Int.natAbs_fdiv_le_natAbs a b)
/-! ### data: laid at most so deep -/
structure Sh (n : Nat) (d : PyData) : Prop where
  c : d.canLay0 = true
  d : d.depth ≤ n
theorem Sh.shaped {n : Nat} {d : PyData} (h : Sh n d) (hn : n ≤ 64) : SeqAt.shaped d = true := by
  unfold SeqAt.shaped
  rw [h.c, decide_eq_true (Nat.le_trans h.d hn)]
  rfl
theorem Sh.mono {n m : Nat} {d : PyData} (h : Sh n d) (hn : n ≤ m) : Sh m d := ⟨h.c, Nat.le_trans h.d hn⟩
theorem Sh.int {n : Nat} (i : Int) : Sh n (.int i) := ⟨rfl, Nat.zero_le _⟩
theorem Sh.non {n : Nat} : Sh n .none := ⟨rfl, Nat.zero_le _⟩
theorem Sh.bl {n : Nat} (b : Bool) : Sh n (.bool b) := ⟨rfl, Nat.zero_le _⟩
theorem Sh.str {n : Nat} {x : Str} (h : PyData.strOk x = true) : Sh n (.str x) := ⟨h, Nat.zero_le _⟩
theorem sh_all {n : Nat} : ∀ {ds : List PyData}, (∀ d ∈ ds, Sh n d) → PyData.canLayAll0 ds = true ∧ PyData.depthAll ds ≤ n
  | [], _ => ⟨rfl, Nat.zero_le _⟩
  | d :: ds, h => by
    have a := h d List.mem_cons_self
    have b := sh_all (ds := ds) fun e he => h e (List.mem_cons_of_mem _ he)
    refine ⟨?_, ?_⟩
    · show (d.canLay0 && PyData.canLayAll0 ds) = true
      rw [a.c, b.1]; rfl
    · show max d.depth (PyData.depthAll ds) ≤ n
      exact Nat.max_le.mpr ⟨a.d, b.2⟩
theorem Sh.list {n : Nat} {ds : List PyData} (h : ∀ d ∈ ds, Sh n d) : Sh (n + 1) (.list ds) := by
  have a := sh_all h
  refine ⟨?_, ?_⟩
  · show PyData.canLayAll0 ds = true
    exact a.1
  · show PyData.depthAll ds + 1 ≤ n + 1
    exact Nat.succ_le_succ a.2
theorem Sh.tup {n : Nat} {ds : List PyData} (h : ∀ d ∈ ds, Sh n d) : Sh (n + 1) (.tuple ds) := by
  have a := sh_all h
  refine ⟨?_, ?_⟩
  · show PyData.canLayAll0 ds = true
    exact a.1
  · show PyData.depthAll ds + 1 ≤ n + 1
    exact Nat.succ_le_succ a.2
theorem Sh.refl {n : Nat} {d : PyData} (h : Sh n d) : PyData.eqv d d = true := SeqAt.eqv_refl d h.c
theorem dp_ints {K : PySem.W.Frag} {H : Hp} : ∀ ns : List Int, DpAll K H (ns.map V.int) (ns.map PyData.int)
  | [] => .nil
  | _ :: ns => .cons (.int _) (dp_ints ns)
theorem sh_ints {n : Nat} (ns : List Int) : ∀ d ∈ ns.map PyData.int, Sh n d := fun d h => by
  obtain ⟨i, _, rfl⟩ := List.mem_map.mp h
  exact Sh.int i
/-- a promise that asks what never holds -/
theorem fn_none {P : Program} {w : World} {K : PySem.W.Frag} {mg : Str → Option Value} {base : Heap} {CX : CXT} {k : Nat} {f : Addr} {fd : FuncData} {ps : List Str} {sp : Sp} (h : ∀ vs H Q E, ¬ sp vs H Q E) : FnOk P w K mg base CX k f fd ps sp :=
  ⟨fun vs H Q E z => absurd z (h vs H Q E), fun A outer s H args us vs Q E _ _ _ _ z => absurd z (h vs H Q E)⟩
/-! ### specs by the number of arguments -/
def Sp0 (f : Hp → VK → XK → Prop) : Sp := fun vs H Q E => vs = [] ∧ f H Q E
def Sp1 (f : V → Hp → VK → XK → Prop) : Sp := fun vs H Q E => ∃ a, vs = [a] ∧ f a H Q E
def Sp2 (f : V → V → Hp → VK → XK → Prop) : Sp := fun vs H Q E => ∃ a b, vs = [a, b] ∧ f a b H Q E
def Sp3 (f : V → V → V → Hp → VK → XK → Prop) : Sp := fun vs H Q E => ∃ a b c, vs = [a, b, c] ∧ f a b c H Q E
def Sp4 (f : V → V → V → V → Hp → VK → XK → Prop) : Sp := fun vs H Q E => ∃ a b c d, vs = [a, b, c, d] ∧ f a b c d H Q E
def Sp5 (f : V → V → V → V → V → Hp → VK → XK → Prop) : Sp := fun vs H Q E => ∃ a b c d e, vs = [a, b, c, d, e] ∧ f a b c d e H Q E
end
end Z
/-! ### rows of values -/
namespace Z
open PySem PySem.Spec PyProof.Rows L2
def Row {α : Type} (R : α → V → Prop) (xs : List α) (vs : List V) : Prop := vs.length = xs.length ∧ ∀ (i : Nat) (x : α) (v : V), xs[i]? = some x → vs[i]? = some v → R x v
section
variable {α : Type} {R R' : α → V → Prop} {xs ys : List α} {vs ws : List V} {x : α} {v : V} {i : Nat}
theorem Row.nil : Row R [] [] := ⟨rfl, fun i x v h => by simp at h⟩
theorem Row.imp (h : Row R xs vs) (f : ∀ x v, x ∈ xs → R x v → R' x v) : Row R' xs vs := ⟨h.1, fun i x v a b => f _ _ (List.mem_of_getElem? a) (h.2 i x v a b)⟩
theorem Row.get (h : Row R xs vs) (e : xs[i]? = some x) : ∃ v, vs[i]? = some v ∧ R x v := by
  have hi := (List.getElem?_eq_some_iff.mp e).1
  have hj : i < vs.length := by rw [h.1]; exact hi
  exact ⟨vs[i], List.getElem?_eq_getElem hj, h.2 i x _ e (List.getElem?_eq_getElem hj)⟩
theorem Row.getv (h : Row R xs vs) (e : vs[i]? = some v) : ∃ x, xs[i]? = some x ∧ R x v := by
  have hi := (List.getElem?_eq_some_iff.mp e).1
  have hj : i < xs.length := by rw [← h.1]; exact hi
  exact ⟨xs[i], List.getElem?_eq_getElem hj, h.2 i _ v (List.getElem?_eq_getElem hj) e⟩
theorem Row.one (h : R x v) : Row R [x] [v] := ⟨rfl, fun i a b e f => by
  cases i with
  | zero => simp at e f; subst e; subst f; exact h
  | succ j => simp at e⟩
theorem Row.append (h : Row R xs vs) (g : Row R ys ws) : Row R (xs ++ ys) (vs ++ ws) := ⟨by rw [List.length_append, List.length_append, h.1, g.1], fun i a b e f => by
  by_cases c : i < xs.length
  · rw [List.getElem?_append_left c] at e
    rw [List.getElem?_append_left (by rw [h.1]; exact c)] at f
    exact h.2 i a b e f
  · rw [List.getElem?_append_right (by omega)] at e
    rw [List.getElem?_append_right (by rw [h.1]; omega), h.1] at f
    exact g.2 _ a b e f⟩
theorem Row.app (h : Row R xs vs) (g : R x v) : Row R (xs ++ [x]) (vs ++ [v]) := h.append (Row.one g)
theorem Row.cons (g : R x v) (h : Row R xs vs) : Row R (x :: xs) (v :: vs) := (Row.one g).append h
theorem Row.uncons {l : List V} (h : Row R (x :: xs) l) : ∃ v vs, l = v :: vs ∧ R x v ∧ Row R xs vs := by
  cases l with
  | nil => have := h.1; simp at this
  | cons v vs => exact ⟨v, vs, rfl, h.2 0 _ _ rfl rfl, by have := h.1; simpa using this, fun i a b e f => h.2 (i + 1) a b (by simpa using e) (by simpa using f)⟩
theorem Row.set (h : Row R xs vs) (g : R x v) : Row R (xs.set i x) (vs.set i v) := ⟨by rw [List.length_set, List.length_set, h.1], fun j a b e f => by
  by_cases c : i = j
  · subst c
    have hi := (List.getElem?_eq_some_iff.mp e).1
    rw [List.length_set] at hi
    rw [List.getElem?_set_self hi] at e
    rw [List.getElem?_set_self (by rw [h.1]; exact hi)] at f
    cases e; cases f; exact g
  · rw [List.getElem?_set_ne c] at e f
    exact h.2 j a b e f⟩
theorem Row.take (n : Nat) (h : Row R xs vs) : Row R (xs.take n) (vs.take n) := ⟨by rw [List.length_take, List.length_take, h.1], fun j a b e f => by
  rw [List.getElem?_take] at e f
  split at e
  · rename_i c; rw [if_pos c] at f; exact h.2 j a b e f
  · cases e⟩
theorem Row.drop (n : Nat) (h : Row R xs vs) : Row R (xs.drop n) (vs.drop n) := ⟨by rw [List.length_drop, List.length_drop, h.1], fun j a b e f => by
  rw [List.getElem?_drop] at e f
  exact h.2 _ a b e f⟩
theorem Row.len (h : Row R xs vs) : vs.length = xs.length := h.1
theorem Row.mp {β : Type} {f : β → α} {bs : List β} (h : Row R (bs.map f) vs) : Row (fun b v => R (f b) v) bs vs := ⟨by rw [h.1, List.length_map], fun i b v e g => h.2 i _ v (by rw [List.getElem?_map, e]; rfl) g⟩
theorem Row.mpr {β : Type} {f : β → α} {bs : List β} (h : Row (fun b v => R (f b) v) bs vs) : Row R (bs.map f) vs := ⟨by rw [h.1, List.length_map], fun i a v e g => by
  rw [List.getElem?_map] at e
  obtain ⟨b, e1, rfl⟩ := Option.map_eq_some_iff.mp e
  exact h.2 i b v e1 g⟩
end
/-- a tuple of ints -/
def TupI (H : Hp) (x : List Int) (v : V) : Prop := ∃ t, v = .ref t ∧ H t = some (.tup (x.map V.int))
def TupsAt (H : Hp) (xss : List (List Int)) (vs : List V) : Prop := Row (TupI H) xss vs
theorem TupI.mono {H H' : Hp} {x : List Int} {v : V} (S : TupS H H') (h : TupI H x v) : TupI H' x v := by
  obtain ⟨t, rfl, e⟩ := h
  exact ⟨t, rfl, S _ _ e⟩
theorem TupsAt.mono {H H' : Hp} {xss : List (List Int)} {vs : List V} (S : TupS H H') (h : TupsAt H xss vs) : TupsAt H' xss vs := Row.imp h fun _ _ _ r => r.mono S
/-- a list or a tuple of ints -/
def SeqI (K : PySem.W.Frag) (H : Hp) (x : List Int) (v : V) : Prop := ∃ t, v = .ref t ∧ (SqL K H t (x.map V.int) ∨ SqT K H t (x.map V.int))
theorem SeqI.same {K : PySem.W.Frag} {H H' : Hp} {x : List Int} {v : V} (S : Same H H') (h : SeqI K H x v) : SeqI K H' x v := by
  obtain ⟨t, rfl, e | e⟩ := h
  · exact ⟨t, rfl, .inl (S.seq e)⟩
  · exact ⟨t, rfl, .inr (same_sqT S e)⟩
theorem TupI.seq {K : PySem.W.Frag} {H : Hp} {x : List Int} {v : V} (h : TupI H x v) : SeqI K H x v := by
  obtain ⟨t, rfl, e⟩ := h
  exact ⟨t, rfl, .inr (SqT.of e)⟩
theorem tups_dp {K : PySem.W.Frag} {H : Hp} : ∀ {xss : List (List Int)} {vs : List V}, TupsAt H xss vs → DpAll K H vs (xss.map fun x => PyData.tuple (x.map PyData.int))
  | [], vs, h => by
    cases vs with
    | nil => exact .nil
    | cons _ _ => have := h.1; simp at this
  | x :: xss, vs, h => by
    obtain ⟨v, r, rfl, ⟨t, rfl, e⟩, g⟩ := Row.uncons h
    exact .cons (.tup (SqT.of e) (dp_ints x)) (tups_dp g)
theorem sh_tups {n : Nat} (xss : List (List Int)) : ∀ d ∈ xss.map (fun x => PyData.tuple (x.map PyData.int)), Sh (n + 1) d := fun d h => by
  obtain ⟨x, _, rfl⟩ := List.mem_map.mp h
  exact Sh.tup (sh_ints x)
/-- a pen: a list of a script and of numbers -/
def Pn (K : PySem.W.Frag) (n : Nat) (H : Hp) (p : Addr) : Prop := ∃ (sa : Addr) (ns ks : List Int), Scr K H sa ns ∧ ks.length = n ∧ (∀ x ∈ ks, 0 ≤ x) ∧ H p = some (.lst (.ref sa :: ks.map V.int))
section
variable {K : PySem.W.Frag} {H H' : Hp} {p q : Addr} {n : Nat} {o : HO}
theorem Pn.ne (h : Pn K n H p) (hq : H q = none) : q ≠ p := by
  obtain ⟨sa, ns, ks, hS, hl, hk, hp⟩ := h
  exact (ne_of_none hp hq).symm
theorem Pn.but (h : Pn K n H p) (B : But q H H') (m : p ≠ q) : Pn K n H' p := by
  obtain ⟨sa, ns, ks, hS, hl, hk, hp⟩ := h
  exact ⟨sa, ns, ks, hS.but B, hl, hk, B _ _ (.inl m) hp⟩
theorem Pn.butN (h : Pn K n H p) (B : But q H H') (m : q ≠ p) : Pn K n H' p := h.but B m.symm
theorem Pn.same (h : Pn K n H p) (S : Same H H') : Pn K n H' p := by
  obtain ⟨sa, ns, ks, hS, hl, hk, hp⟩ := h
  exact ⟨sa, ns, ks, hS.same S, hl, hk, S _ _ hp⟩
theorem Pn.new (h : Pn K n H p) (hq : H q = none) : Pn K n (upd H q o) p := h.same (same_new hq)
theorem Pn.tups (h : Pn K n H p) (B : But p H H') : TupS H H' := by
  obtain ⟨sa, ns, ks, hS, hl, hk, hp⟩ := h
  exact TupS.but B hp fun ys e => by cases e
theorem Pn.nei (h : Pn K n H p) {xs : List Int} (hq : H q = some (.lst (xs.map V.int))) : q ≠ p := by
  obtain ⟨sa, ns, ks, hS, hl, hk, hp⟩ := h
  exact ne_of hq hp (by
    intro z
    injection z with z
    cases xs with
    | nil => cases z
    | cons x xs => injection z with z _; cases z)
theorem Pn.net (h : Pn K n H p) {xs : List V} (hq : H q = some (.tup xs)) : q ≠ p := by
  obtain ⟨sa, ns, ks, hS, hl, hk, hp⟩ := h
  exact ne_of hq hp (by intro z; cases z)
end
theorem TupS.butL {p : Addr} {H H' : Hp} {xs : List V} (S : But p H H') (hp : H p = some (.lst xs)) : TupS H H' := TupS.but S hp fun ys e => by cases e
/-- is, of None or of truths -/
def rIsU : R2 := fun x y H Q => rIsNz x y H Q ∨ rIsB x y H Q
def rNotU : R2 := fun x y H Q => rNotNz x y H Q ∨ rNotB x y H Q
theorem op_isU {X : Cx} : OpR X (compareOp .Is) rIsU := OpR.or op_isNz op_isBl
theorem op_notU {X : Cx} : OpR X (compareOp .IsNot) rNotU := OpR.or op_notNz op_notBl
section
variable {K : PySem.W.Frag} {σ : L2.St} {H : Hp} {Q : VK} {N b c : L2.St → Hp → Prop} {r : VK} {te : TE} {x y : V} {i : Int} {n : Nat} {p q : Addr} {xs : List V} {j k : Bool}
theorem s_isU_n (h : rIsNz x .non H Q) : rIsU x .non H Q := .inl h
theorem s_notU_n (h : rNotNz x .non H Q) : rNotU x .non H Q := .inl h
theorem s_isU_b (h : Q (.bl (decide (j = k))) H) : rIsU (.bl j) (.bl k) H Q := .inr ⟨j, k, rfl, rfl, h⟩
theorem s_notU_b (h : Q (.bl (!decide (j = k))) H) : rNotU (.bl j) (.bl k) H Q := .inr ⟨j, k, rfl, rfl, h⟩
/-- an item of a literal list of ints -/
theorem s_ixI (ns : List Int) (h1 : SqL K H p xs) (e : xs = ns.map V.int) (h2 : 0 ≤ i) (h3 : i < ns.length) (h : ∀ w, w ∈ ns → ns[i.toNat]? = some w → Q (.int w) H) : rIx K (.ref p) (.int i) H Q := by
  subst e
  have hl : i.toNat < ns.length := by omega
  refine s_ix_l h1 (v := .int ns[i.toNat]) (at_of (j := i.toNat) (by omega) (by rw [List.getElem?_map, List.getElem?_eq_getElem hl]; rfl)) ?_
  exact h _ (List.getElem_mem _) (List.getElem?_eq_getElem hl)
theorem s_ixN {ns : List V} {m : Nat} {v : V} (h1 : SqL K H p ns) (h2 : ns[m]? = some v) (h : Q v H) : rIx K (.ref p) (.int (m : Int)) H Q := s_ix_l h1 (atI_nat h2) h
theorem s_ixTN {ns : List V} {m : Nat} {v : V} (h1 : SqT K H p ns) (h2 : ns[m]? = some v) (h : Q v H) : rIx K (.ref p) (.int (m : Int)) H Q := s_ix_t h1 (atI_nat h2) h
end
section
variable {K : PySem.W.Frag} {H : Hp} {Q : VK} {p q a : Addr} {xs : List V} {i : Int} {x : V} {te : TE} {σ : L2.St}
theorem tyx_l (h : SqL K H p xs) : TyX K H (.ref p) (.type "list") := by
  rcases h with (h | ⟨o, h⟩) | ⟨o, its, n, h, hc, _⟩
  · exact .base (.lst h)
  · exact .base (.frz h)
  · exact .kList h hc
theorem tyx_t (h : SqT K H p xs) : TyX K H (.ref p) (.type "tuple") := by
  rcases h with (h | ⟨o, h⟩) | ⟨o, its, n, h, hc, _⟩
  · exact .base (.tup h)
  · exact .fTuple h
  · exact .kTuple h hc
theorem kit_any2 {K : PySem.W.Frag} {a b c : String} {r r' : Bool} (h1 : kitB a b = some r) (h2 : kitB a c = some r') : PySem.W.kitAny K (.type a) [.type b, .type c] = some (r || r') := by
  unfold PySem.W.kitAny
  have e1 := kit_ty (K := K) h1
  have e2 := kit_ty (K := K) h2
  show (match PySem.W.kitOne K (.type a) (.type b) with | some true => some true | some false => PySem.W.kitAny K (.type a) [.type c] | none => none) = _
  rw [e1]
  cases r with
  | true => rfl
  | false =>
    show (match PySem.W.kitOne K (.type a) (.type c) with | some true => some true | some false => some false | none => none) = _
    rw [e2]
    cases r' <;> rfl
theorem s_isiT {cs : List V} {t : Value} {us : List Value} {bb : Bool} (h1 : H q = some (.tup cs)) (h2 : Paired ClsV cs us) (h3 : TyX K H x t) (h4 : PySem.W.kitAny K t us = some bb) (h : Q (.bl bb) H) : rIsi2 K [x, .ref q] H Q := .inr ⟨x, q, cs, t, us, bb, rfl, h1, h2, h3, h4, h⟩
theorem isi_lt_l (h1 : H q = some (.tup [.ty "list", .ty "tuple"])) (h2 : SqL K H p xs) (h : Q (.bl true) H) : rIsi2 K [.ref p, .ref q] H Q :=
  s_isiT h1 (.cons (.ty _) (.cons (.ty _) .nil)) (tyx_l h2) (kit_any2 (r := true) (r' := false) (by decide +kernel) (by decide +kernel)) h
theorem isi_lt_t (h1 : H q = some (.tup [.ty "list", .ty "tuple"])) (h2 : SqT K H p xs) (h : Q (.bl true) H) : rIsi2 K [.ref p, .ref q] H Q :=
  s_isiT h1 (.cons (.ty _) (.cons (.ty _) .nil)) (tyx_t h2) (kit_any2 (r := false) (r' := true) (by decide +kernel) (by decide +kernel)) h
theorem isi_list (h2 : SqL K H p xs) (h : Q (.bl true) H) : rIsi2 K [.ref p, .ty "list"] H Q := s_isi (bb := true) (.ty _) (tyx_l h2) (kit_ty (by decide +kernel)) h
theorem isi_tup (h2 : SqT K H p xs) (h : Q (.bl true) H) : rIsi2 K [.ref p, .ty "tuple"] H Q := s_isi (bb := true) (.ty _) (tyx_t h2) (kit_ty (by decide +kernel)) h
theorem isi_int (h : Q (.bl true) H) : rIsi2 K [.int i, .ty "int"] H Q := s_isi (bb := true) (.ty _) (.base (.int i)) (kit_ty (by decide +kernel)) h
theorem isi_int_bool (h : Q (.bl false) H) : rIsi2 K [.int i, .ty "bool"] H Q := s_isi (bb := false) (.ty _) (.base (.int i)) (kit_ty (by decide +kernel)) h
/-- for x in a list or a tuple -/
def iUn (K : PySem.W.Frag) (te : TE) : TI := fun σ H R => iList K te σ H R ∨ iTup K te σ H R
theorem pi_un {X : Cx} {tg e : Expr} {te : TE} (h : PE X e te) : PI X tg e (iUn X.K te) :=
  ⟨fun pins s σ H R I z => z.elim (fun z => (pi_list h).run pins s σ H R I z) fun z => (pi_tup h).run pins s σ H R I z⟩
theorem s_iun_l {R : It → Hp → Prop} (h : te σ H fun x H1 => zItL K x H1 R) : iUn K te σ H R := .inl h
theorem s_iun_t {R : It → Hp → Prop} (h : te σ H fun x H1 => zItT K x H1 R) : iUn K te σ H R := .inr h
end
/-- a list or a tuple that is gone through -/
def SqB (K : PySem.W.Frag) : Bool → Hp → Addr → List V → Prop
  | true, H, p, xs => SqL K H p xs
  | false, H, p, xs => SqT K H p xs
def Itu (K : PySem.W.Frag) (p : Addr) : Bool → It
  | true => Itl K p
  | false => Itt K p
theorem SqB.same {K : PySem.W.Frag} {k : Bool} {H H' : Hp} {p : Addr} {xs : List V} (S : Same H H') (h : SqB K k H p xs) : SqB K k H' p xs := by
  cases k with
  | true => exact S.seq h
  | false => exact same_sqT S h
theorem SqB.but {K : PySem.W.Frag} {k : Bool} {H H' : Hp} {p q : Addr} {xs : List V} (B : But q H H') (n : p ≠ q) (h : SqB K k H p xs) : SqB K k H' p xs := by
  cases k with
  | true => exact B.sqL n h
  | false => exact B.sqT n h
section
variable {K : PySem.W.Frag} {H : Hp} {Q : VK} {p q a : Addr} {xs : List V} {i : Int} {x : V} {te : TE} {σ : L2.St} {k : Bool} {g : TG} {N b c : L2.St → Hp → Prop} {r : VK} {t : TT} {n : Nat}
theorem s_iunV {R : It → Hp → Prop} (h : SqL K H p xs ∨ SqT K H p xs) (hv : σ[n]? = some (some (.ref p))) (hR : ∀ k, SqB K k H p xs → R (Itu K p k) H) : iUn K (tVar n) σ H R :=
  h.elim (fun z => .inl ⟨_, hv, p, rfl, ⟨xs, z⟩, hR true z⟩) fun z => .inr ⟨_, hv, p, rfl, ⟨xs, z⟩, hR false z⟩
theorem loop_un {tb1 : TS} (xs : List V) (Pv : Nat → L2.St → Hp → Prop) (h0 : Pv 0 σ H) (hl : ∀ i σ' H', i ≤ xs.length → Pv i σ' H' → SqB K k H' p xs)
    (hs : ∀ i x σ' H', xs[i]? = some x → Pv i σ' H' → g x σ' H' fun σ2 H2 => tb1 ⟨Pv (i + 1), r, N, Pv (i + 1)⟩ σ2 H2) (hd : ∀ σ' H', Pv xs.length σ' H' → N σ' H') : zLoop (Itu K p k) g tb1 ⟨N, r, b, c⟩ σ H := by
  cases k with
  | true => exact loop_list xs Pv h0 hl hs hd
  | false => exact loop_tup xs Pv h0 hl hs hd
theorem lc_un {vs : List Nat} (xs : List V) (Pv : Addr → Nat → Hp → Prop) (h0 : ∀ D, H D = none → Pv D 0 (upd H D (.lst []))) (hl : ∀ D i H', H D = none → i ≤ xs.length → Pv D i H' → SqB K k H' p xs)
    (hs : ∀ D i x H', H D = none → xs[i]? = some x → Pv D i H' → g x (wipe σ vs) H' fun σ2 H2 => zWipe vs σ σ2 (t σ2 H2 fun k H3 => zIf k (te σ2 H3 fun y H4 => zAcc D y H4 (Pv D (i + 1))) (Pv D (i + 1) H3)))
    (hd : ∀ D H', H D = none → Pv D xs.length H' → Q (.ref D) H') : zLc (Itu K p k) g t te vs σ H Q := by
  cases k with
  | true => exact lc_lst xs Pv h0 hl hs hd
  | false => exact lc_tp xs Pv h0 hl hs hd
/-- in a list or a tuple -/
theorem s_ixU {z : Int} {v : V} (h1 : SqL K H p xs ∨ SqT K H p xs) (h2 : atI xs z = some v) (h : Q v H) : rIx K (.ref p) (.int z) H Q := h1.elim (fun y => s_ix_l y h2 h) fun y => s_ix_t y h2 h
theorem s_lenU (h1 : SqL K H p xs ∨ SqT K H p xs) (h : Q (.int xs.length) H) : rLen K [.ref p] H Q := h1.elim (fun y => s_len_l y h) fun y => s_len_t y h
theorem s_gunU {tg : TGs} {NN : L2.St → Hp → Prop} (hs : SqL K H p xs ∨ SqT K H p xs) (hl : xs.length = n) (h : tg xs σ H NN) : gUn K n tg (.ref p) σ H NN := hs.elim (fun y => s_gun_l y hl h) fun y => s_gun_t y hl h
theorem s_listU (h1 : SqL K H p xs ∨ SqT K H p xs) (h : ∀ l, H l = none → Q (.ref l) (upd H l (.lst xs))) : rListOf K [.ref p] H Q := h1.elim (fun y => s_listof_l y h) fun y => s_listof_t y h
theorem isi_ltU (h1 : H q = some (.tup [.ty "list", .ty "tuple"])) (h2 : SqL K H p xs ∨ SqT K H p xs) (h : Q (.bl true) H) : rIsi2 K [.ref p, .ref q] H Q := h2.elim (fun y => isi_lt_l h1 y h) fun y => isi_lt_t h1 y h
end
theorem seqU_same {K : PySem.W.Frag} {H H' : Hp} {p : Addr} {xs : List V} (S : Same H H') (h : SqL K H p xs ∨ SqT K H p xs) : SqL K H' p xs ∨ SqT K H' p xs := h.imp S.seq (same_sqT S)
theorem seqU_but {K : PySem.W.Frag} {H H' : Hp} {p q : Addr} {xs : List V} (B : But q H H') (n : p ≠ q) (h : SqL K H p xs ∨ SqT K H p xs) : SqL K H' p xs ∨ SqT K H' p xs := h.imp (B.sqL n) (B.sqT n)
theorem inV_ints (i : Int) (ns : List Int) : inV (.int i) (ns.map V.int) = decide (i ∈ ns) := by
  unfold inV
  induction ns with
  | nil => simp
  | cons a ns ih =>
    rw [List.map_cons, List.any_cons, ih]
    have : eqV (.int a) (.int i) = decide (i = a) := by
      show (a == i) = _
      by_cases c : i = a
      · subst c; simp
      · rw [decide_eq_false c]; simpa using fun z => c z.symm
    rw [this]
    by_cases c : i = a <;> simp [c]
theorem cut_takeI (ys : List Int) (j : Nat) : cutV (ys.map V.int) none (some (j : Int)) = (ys.take j).map V.int := by
  unfold cutV
  rw [HT.sIx_none, HT.sIx_nat, List.drop_zero, Nat.sub_zero, List.length_map, ← List.map_take]
  congr 1
  by_cases h : j ≤ ys.length
  · rw [Nat.min_eq_left h]
  · rw [Nat.min_eq_right (by omega), List.take_of_length_le (by omega), List.take_of_length_le (by omega)]
theorem cut_dropI (ys : List Int) (j : Nat) : cutV (ys.map V.int) (some (j : Int)) none = (ys.drop j).map V.int := by
  unfold cutV
  rw [HT.sIx_none, HT.sIx_nat, List.length_map]
  by_cases h : j ≤ ys.length
  · rw [Nat.min_eq_left h, ← List.map_drop, List.take_of_length_le (by rw [List.length_map, List.length_drop]; omega)]
  · rw [Nat.min_eq_right (by omega), List.drop_eq_nil_of_le (by rw [List.length_map]; omega), List.drop_eq_nil_of_le (by omega)]
    simp
theorem SqB.of {K : PySem.W.Frag} {H : Hp} {p : Addr} {xs : List V} (h : SqL K H p xs ∨ SqT K H p xs) : ∃ k, SqB K k H p xs := h.elim (fun z => ⟨true, z⟩) fun z => ⟨false, z⟩
theorem SqB.or {K : PySem.W.Frag} {H : Hp} {p : Addr} {xs : List V} {k : Bool} (h : SqB K k H p xs) : SqL K H p xs ∨ SqT K H p xs := by
  cases k with
  | true => exact .inl h
  | false => exact .inr h
theorem s_iunB {K : PySem.W.Frag} {σ : L2.St} {H : Hp} {n : Nat} {p : Addr} {xs : List V} {k : Bool} {R : It → Hp → Prop} (h : SqB K k H p xs) (hv : σ[n]? = some (some (.ref p))) (hR : R (Itu K p k) H) : iUn K (tVar n) σ H R := by
  cases k with
  | true => exact .inl ⟨_, hv, p, rfl, ⟨xs, h⟩, hR⟩
  | false => exact .inr ⟨_, hv, p, rfl, ⟨xs, h⟩, hR⟩
theorem ixN_nat {n i : Nat} (h : i < n) : ixN n (i : Int) = some i := by
  unfold ixN
  rw [if_pos (by omega), if_pos (by omega), Int.toNat_natCast]
theorem s_iunE {K : PySem.W.Frag} {σ : L2.St} {H : Hp} {p : Addr} {xs : List V} {k : Bool} {te : TE} {R : It → Hp → Prop} (hte : ∀ Q : VK, Q (.ref p) H → te σ H Q) (h : SqB K k H p xs) (hR : R (Itu K p k) H) : iUn K te σ H R := by
  cases k with
  | true => exact .inl (hte _ ⟨p, rfl, ⟨xs, h⟩, hR⟩)
  | false => exact .inr (hte _ ⟨p, rfl, ⟨xs, h⟩, hR⟩)
theorem s_tupU {K : PySem.W.Frag} {H : Hp} {p : Addr} {xs : List V} {Q : VK} (h1 : SqL K H p xs ∨ SqT K H p xs) (h : ∀ l H', Same H H' → SqT K H' l xs → Q (.ref l) H') : rTupOf K [.ref p] H Q :=
  h1.elim (fun y => s_tupof_l y fun l hl => h l _ (same_new hl) (SqT.of upd_same)) fun y => s_tupof_t y (h p H (Same.refl _) y)
end Z
namespace My
open PySem L2 Z

def top (i : Nat) : Stmt := PySem.Challenge.pw_ownchain_k23_codes_read.main.body.getD i (.Pass ⟨0, 0, 0, 0⟩)
abbrev st_is_whole : Stmt := top 22
abbrev nm_is_whole : List Str := ["thing"]
abbrev st_are_wholes : Stmt := top 23
abbrev nm_are_wholes : List Str := ["things", "many", ".0", "thing"]
abbrev st_fits_op : Stmt := top 24
abbrev nm_fits_op : List Str := ["op", "number", "functions", "rows"]
abbrev st_fits_head : Stmt := top 25
abbrev nm_fits_head : List Str := ["head", "at", "rows", "start", "params", "boxes"]
abbrev st_make_code : Stmt := top 26
abbrev nm_make_code : List Str := ["heads", "rows", "at", "op", "number"]
abbrev st_cut_up : Stmt := top 27
abbrev nm_cut_up : List Str := ["numbers", "size", "found", "k"]
abbrev st_parted_code : Stmt := top 28
abbrev nm_parted_code : List Str := ["thing", "many", "heads", "rows"]
abbrev st_is_code : Stmt := top 29
abbrev nm_is_code : List Str := ["thing", "found"]
abbrev st_heads_of : Stmt := top 30
abbrev nm_heads_of : List Str := ["code"]
abbrev st_rows_of : Stmt := top 31
abbrev nm_rows_of : List Str := ["code"]
abbrev st_code_of : Stmt := top 32
abbrev nm_code_of : List Str := ["heads", "rows", "head", "row", "found", ".0"]
abbrev st_Lpen : Stmt := top 34
abbrev nm_Lpen : List Str := ["_law_script"]
abbrev st_Lmixed : Stmt := top 35
abbrev nm_Lmixed : List Str := ["_law_cell", "_law_turn", "_law_number_here"]
abbrev st_Ltake : Stmt := top 36
abbrev nm_Ltake : List Str := ["_law_pen_here", "_law_many", "_law_cell", "_law_found"]
abbrev st_Lnumber : Stmt := top 37
abbrev nm_Lnumber : List Str := ["_law_pen_here"]
abbrev st_Lneeds : Stmt := top 38
abbrev nm_Lneeds : List Str := ["_law_op", "_law_number_here", "_law_heads"]
abbrev st_Lrow : Stmt := top 39
abbrev nm_Lrow : List Str := ["_law_pen_here", "_law_height_here", "_law_many", "_law_heads", "_law_op", "_law_number_here"]
abbrev st_Lheight : Stmt := top 40
abbrev nm_Lheight : List Str := ["_law_op", "_law_number_here", "_law_heads", "_law_height_here", "_law_left"]
abbrev st_Lcode : Stmt := top 41
abbrev nm_Lcode : List Str := ["_law_pen_here", "_law_many", "_law_heads", "_law_k", "_law_params", "_law_rows", "_law_flat", "_law_height_here", "_law_start"]
abbrev st_Llist : Stmt := top 42
abbrev nm_Llist : List Str := ["_law_heads", "_law_rows", "_law_found", "_law_head", "_law_row_here"]
abbrev st_Ltuples : Stmt := top 43
abbrev nm_Ltuples : List Str := ["_law_things", "_law_many", ".0", "_law_thing"]
abbrev st_law : Stmt := top 44
abbrev nm_law : List Str := ["_law_script", "_law_pen_here", "_law_heads", "_law_rows", "_law_numbers", "_law_handed", "_law_way", "_law_turn", "_law_found", "_law_found_heads", "_law_found_rows", ".0", "_law_head", "_law_row_here"]
/-- where the top's things stand -/
structure Adr where
  K : PySem.W.Frag
  mg : Str → Option Value
  t_PUSH : Tok
  t_GET : Tok
  t_SET : Tok
  t_DROP : Tok
  t_JUMP : Tok
  t_UNLESS : Tok
  t_CALL : Tok
  t_BACK : Tok
  t_FAIL : Tok
  t_BREATH : Tok
  t_DO : Tok
  t_PICK : Tok
  t_MOST_FUNCTIONS : Tok
  t_MOST_PARAMS : Tok
  t_MOST_BOXES : Tok
  t_FIRST_DONE : Tok
  t_LAST_DONE : Tok
  t_MOST_PICKED : Tok
  c_NoCode : Addr
  f_is_whole : Addr
  d_is_whole : FuncData
  f_are_wholes : Addr
  d_are_wholes : FuncData
  f_fits_op : Addr
  d_fits_op : FuncData
  f_fits_head : Addr
  d_fits_head : FuncData
  f_make_code : Addr
  d_make_code : FuncData
  f_cut_up : Addr
  d_cut_up : FuncData
  f_parted_code : Addr
  d_parted_code : FuncData
  f_is_code : Addr
  d_is_code : FuncData
  f_heads_of : Addr
  d_heads_of : FuncData
  f_rows_of : Addr
  d_rows_of : FuncData
  f_code_of : Addr
  d_code_of : FuncData
  f_Lpen : Addr
  d_Lpen : FuncData
  f_Lmixed : Addr
  d_Lmixed : FuncData
  f_Ltake : Addr
  d_Ltake : FuncData
  f_Lnumber : Addr
  d_Lnumber : FuncData
  f_Lneeds : Addr
  d_Lneeds : FuncData
  f_Lrow : Addr
  d_Lrow : FuncData
  f_Lheight : Addr
  d_Lheight : FuncData
  f_Lcode : Addr
  d_Lcode : FuncData
  f_Llist : Addr
  d_Llist : FuncData
  f_Ltuples : Addr
  d_Ltuples : FuncData
  f_law : Addr
  d_law : FuncData
/-- what is known of them -/
structure Top (Z : Adr) : Prop where
  g_PUSH : Z.mg "PUSH" = some (.int 0 Z.t_PUSH)
  g_GET : Z.mg "GET" = some (.int 1 Z.t_GET)
  g_SET : Z.mg "SET" = some (.int 2 Z.t_SET)
  g_DROP : Z.mg "DROP" = some (.int 3 Z.t_DROP)
  g_JUMP : Z.mg "JUMP" = some (.int 4 Z.t_JUMP)
  g_UNLESS : Z.mg "UNLESS" = some (.int 5 Z.t_UNLESS)
  g_CALL : Z.mg "CALL" = some (.int 6 Z.t_CALL)
  g_BACK : Z.mg "BACK" = some (.int 7 Z.t_BACK)
  g_FAIL : Z.mg "FAIL" = some (.int 8 Z.t_FAIL)
  g_BREATH : Z.mg "BREATH" = some (.int 9 Z.t_BREATH)
  g_DO : Z.mg "DO" = some (.int 10 Z.t_DO)
  g_PICK : Z.mg "PICK" = some (.int 11 Z.t_PICK)
  g_MOST_FUNCTIONS : Z.mg "MOST_FUNCTIONS" = some (.int 16 Z.t_MOST_FUNCTIONS)
  g_MOST_PARAMS : Z.mg "MOST_PARAMS" = some (.int 4 Z.t_MOST_PARAMS)
  g_MOST_BOXES : Z.mg "MOST_BOXES" = some (.int 12 Z.t_MOST_BOXES)
  g_FIRST_DONE : Z.mg "FIRST_DONE" = some (.int 8 Z.t_FIRST_DONE)
  g_LAST_DONE : Z.mg "LAST_DONE" = some (.int 19 Z.t_LAST_DONE)
  g_MOST_PICKED : Z.mg "MOST_PICKED" = some (.int 12 Z.t_MOST_PICKED)
  n_all : Z.mg "all" = none
  n_bool : Z.mg "bool" = none
  n_int : Z.mg "int" = none
  n_isinstance : Z.mg "isinstance" = none
  n_len : Z.mg "len" = none
  n_list : Z.mg "list" = none
  n_max : Z.mg "max" = none
  n_range : Z.mg "range" = none
  n_tuple : Z.mg "tuple" = none
  F_is_whole : Fun Z.K "is_whole" "is_whole" st_is_whole Z.f_is_whole Z.d_is_whole
  m_is_whole : Z.mg "is_whole" = some (.ref Z.f_is_whole)
  b_is_whole : Binds Z.K Z.d_is_whole ["thing"] []
  F_are_wholes : Fun Z.K "are_wholes" "are_wholes" st_are_wholes Z.f_are_wholes Z.d_are_wholes
  m_are_wholes : Z.mg "are_wholes" = some (.ref Z.f_are_wholes)
  b_are_wholes : Binds Z.K Z.d_are_wholes ["things", "many"] []
  F_fits_op : Fun Z.K "fits_op" "fits_op" st_fits_op Z.f_fits_op Z.d_fits_op
  m_fits_op : Z.mg "fits_op" = some (.ref Z.f_fits_op)
  b_fits_op : Binds Z.K Z.d_fits_op ["op", "number", "functions", "rows"] []
  F_fits_head : Fun Z.K "fits_head" "fits_head" st_fits_head Z.f_fits_head Z.d_fits_head
  m_fits_head : Z.mg "fits_head" = some (.ref Z.f_fits_head)
  b_fits_head : Binds Z.K Z.d_fits_head ["head", "at", "rows"] []
  F_make_code : Fun Z.K "make_code" "make_code" st_make_code Z.f_make_code Z.d_make_code
  m_make_code : Z.mg "make_code" = some (.ref Z.f_make_code)
  b_make_code : Binds Z.K Z.d_make_code ["heads", "rows"] []
  F_cut_up : Fun Z.K "cut_up" "cut_up" st_cut_up Z.f_cut_up Z.d_cut_up
  m_cut_up : Z.mg "cut_up" = some (.ref Z.f_cut_up)
  b_cut_up : Binds Z.K Z.d_cut_up ["numbers", "size"] []
  F_parted_code : Fun Z.K "parted_code" "parted_code" st_parted_code Z.f_parted_code Z.d_parted_code
  m_parted_code : Z.mg "parted_code" = some (.ref Z.f_parted_code)
  b_parted_code : Binds Z.K Z.d_parted_code ["thing"] []
  F_is_code : Fun Z.K "is_code" "is_code" st_is_code Z.f_is_code Z.d_is_code
  m_is_code : Z.mg "is_code" = some (.ref Z.f_is_code)
  b_is_code : Binds Z.K Z.d_is_code ["thing"] []
  F_heads_of : Fun Z.K "heads_of" "heads_of" st_heads_of Z.f_heads_of Z.d_heads_of
  m_heads_of : Z.mg "heads_of" = some (.ref Z.f_heads_of)
  b_heads_of : Binds Z.K Z.d_heads_of ["code"] []
  F_rows_of : Fun Z.K "rows_of" "rows_of" st_rows_of Z.f_rows_of Z.d_rows_of
  m_rows_of : Z.mg "rows_of" = some (.ref Z.f_rows_of)
  b_rows_of : Binds Z.K Z.d_rows_of ["code"] []
  F_code_of : Fun Z.K "code_of" "code_of" st_code_of Z.f_code_of Z.d_code_of
  m_code_of : Z.mg "code_of" = some (.ref Z.f_code_of)
  b_code_of : Binds Z.K Z.d_code_of ["heads", "rows"] []
  F_Lpen : Fun Z.K "_law_pen" "_law_pen" st_Lpen Z.f_Lpen Z.d_Lpen
  m_Lpen : Z.mg "_law_pen" = some (.ref Z.f_Lpen)
  b_Lpen : Binds Z.K Z.d_Lpen ["_law_script"] []
  F_Lmixed : Fun Z.K "_law_mixed" "_law_mixed" st_Lmixed Z.f_Lmixed Z.d_Lmixed
  m_Lmixed : Z.mg "_law_mixed" = some (.ref Z.f_Lmixed)
  b_Lmixed : Binds Z.K Z.d_Lmixed ["_law_cell", "_law_turn"] []
  F_Ltake : Fun Z.K "_law_take" "_law_take" st_Ltake Z.f_Ltake Z.d_Ltake
  m_Ltake : Z.mg "_law_take" = some (.ref Z.f_Ltake)
  b_Ltake : Binds Z.K Z.d_Ltake ["_law_pen_here", "_law_many"] []
  F_Lnumber : Fun Z.K "_law_number" "_law_number" st_Lnumber Z.f_Lnumber Z.d_Lnumber
  m_Lnumber : Z.mg "_law_number" = some (.ref Z.f_Lnumber)
  b_Lnumber : Binds Z.K Z.d_Lnumber ["_law_pen_here"] []
  F_Lneeds : Fun Z.K "_law_needs" "_law_needs" st_Lneeds Z.f_Lneeds Z.d_Lneeds
  m_Lneeds : Z.mg "_law_needs" = some (.ref Z.f_Lneeds)
  b_Lneeds : Binds Z.K Z.d_Lneeds ["_law_op", "_law_number_here", "_law_heads"] []
  F_Lrow : Fun Z.K "_law_row" "_law_row" st_Lrow Z.f_Lrow Z.d_Lrow
  m_Lrow : Z.mg "_law_row" = some (.ref Z.f_Lrow)
  b_Lrow : Binds Z.K Z.d_Lrow ["_law_pen_here", "_law_height_here", "_law_many", "_law_heads"] []
  F_Lheight : Fun Z.K "_law_height" "_law_height" st_Lheight Z.f_Lheight Z.d_Lheight
  m_Lheight : Z.mg "_law_height" = some (.ref Z.f_Lheight)
  b_Lheight : Binds Z.K Z.d_Lheight ["_law_op", "_law_number_here", "_law_heads", "_law_height_here"] []
  F_Lcode : Fun Z.K "_law_code" "_law_code" st_Lcode Z.f_Lcode Z.d_Lcode
  m_Lcode : Z.mg "_law_code" = some (.ref Z.f_Lcode)
  b_Lcode : Binds Z.K Z.d_Lcode ["_law_pen_here"] []
  F_Llist : Fun Z.K "_law_list" "_law_list" st_Llist Z.f_Llist Z.d_Llist
  m_Llist : Z.mg "_law_list" = some (.ref Z.f_Llist)
  b_Llist : Binds Z.K Z.d_Llist ["_law_heads", "_law_rows"] []
  F_Ltuples : Fun Z.K "_law_tuples" "_law_tuples" st_Ltuples Z.f_Ltuples Z.d_Ltuples
  m_Ltuples : Z.mg "_law_tuples" = some (.ref Z.f_Ltuples)
  b_Ltuples : Binds Z.K Z.d_Ltuples ["_law_things", "_law_many"] []
  F_law : Fun Z.K "law" "law" st_law Z.f_law Z.d_law
  m_law : Z.mg "law" = some (.ref Z.f_law)
  b_law : Binds Z.K Z.d_law ["_law_script"] []
  g_NoCode : Z.mg "NoCode" = some (.ref Z.c_NoCode)
  oq_NoCode : PySem.W.excIn Z.K Z.c_NoCode [.type "ValueError", .type "Exception", .type "BaseException", .type "object"] "ValueError.__new__" = true
  ok_NoCode : PySem.W.keepIn Z.K (.ref Z.c_NoCode) = true
  ob_NoCode : PySem.W.subIn Z.K (.ref Z.c_NoCode) (.type "BaseException") = some true
  oy_NoCode : PySem.W.typeIn Z.K (.ref Z.c_NoCode) = some (.type "type")
  ex_NoCode_NoCode : PySem.W.exmOne Z.K (.ref Z.c_NoCode) (.ref Z.c_NoCode) = some true
theorem Top.k_all {Z : Adr} (_ : Top Z) : True := trivial
theorem Top.k_is_whole {Z : Adr} (T : Top Z) : PySem.W.keepIn Z.K (.ref Z.f_is_whole) = true := T.F_is_whole.kp
theorem Top.k_are_wholes {Z : Adr} (T : Top Z) : PySem.W.keepIn Z.K (.ref Z.f_are_wholes) = true := T.F_are_wholes.kp
theorem Top.k_fits_op {Z : Adr} (T : Top Z) : PySem.W.keepIn Z.K (.ref Z.f_fits_op) = true := T.F_fits_op.kp
theorem Top.k_fits_head {Z : Adr} (T : Top Z) : PySem.W.keepIn Z.K (.ref Z.f_fits_head) = true := T.F_fits_head.kp
theorem Top.k_make_code {Z : Adr} (T : Top Z) : PySem.W.keepIn Z.K (.ref Z.f_make_code) = true := T.F_make_code.kp
theorem Top.k_cut_up {Z : Adr} (T : Top Z) : PySem.W.keepIn Z.K (.ref Z.f_cut_up) = true := T.F_cut_up.kp
theorem Top.k_parted_code {Z : Adr} (T : Top Z) : PySem.W.keepIn Z.K (.ref Z.f_parted_code) = true := T.F_parted_code.kp
theorem Top.k_is_code {Z : Adr} (T : Top Z) : PySem.W.keepIn Z.K (.ref Z.f_is_code) = true := T.F_is_code.kp
theorem Top.k_heads_of {Z : Adr} (T : Top Z) : PySem.W.keepIn Z.K (.ref Z.f_heads_of) = true := T.F_heads_of.kp
theorem Top.k_rows_of {Z : Adr} (T : Top Z) : PySem.W.keepIn Z.K (.ref Z.f_rows_of) = true := T.F_rows_of.kp
theorem Top.k_code_of {Z : Adr} (T : Top Z) : PySem.W.keepIn Z.K (.ref Z.f_code_of) = true := T.F_code_of.kp
theorem Top.k_Lpen {Z : Adr} (T : Top Z) : PySem.W.keepIn Z.K (.ref Z.f_Lpen) = true := T.F_Lpen.kp
theorem Top.k_Lmixed {Z : Adr} (T : Top Z) : PySem.W.keepIn Z.K (.ref Z.f_Lmixed) = true := T.F_Lmixed.kp
theorem Top.k_Ltake {Z : Adr} (T : Top Z) : PySem.W.keepIn Z.K (.ref Z.f_Ltake) = true := T.F_Ltake.kp
theorem Top.k_Lnumber {Z : Adr} (T : Top Z) : PySem.W.keepIn Z.K (.ref Z.f_Lnumber) = true := T.F_Lnumber.kp
theorem Top.k_Lneeds {Z : Adr} (T : Top Z) : PySem.W.keepIn Z.K (.ref Z.f_Lneeds) = true := T.F_Lneeds.kp
theorem Top.k_Lrow {Z : Adr} (T : Top Z) : PySem.W.keepIn Z.K (.ref Z.f_Lrow) = true := T.F_Lrow.kp
theorem Top.k_Lheight {Z : Adr} (T : Top Z) : PySem.W.keepIn Z.K (.ref Z.f_Lheight) = true := T.F_Lheight.kp
theorem Top.k_Lcode {Z : Adr} (T : Top Z) : PySem.W.keepIn Z.K (.ref Z.f_Lcode) = true := T.F_Lcode.kp
theorem Top.k_Llist {Z : Adr} (T : Top Z) : PySem.W.keepIn Z.K (.ref Z.f_Llist) = true := T.F_Llist.kp
theorem Top.k_Ltuples {Z : Adr} (T : Top Z) : PySem.W.keepIn Z.K (.ref Z.f_Ltuples) = true := T.F_Ltuples.kp
theorem Top.k_law {Z : Adr} (T : Top Z) : PySem.W.keepIn Z.K (.ref Z.f_law) = true := T.F_law.kp
/-! ### codes -/
def HeadOK (h : List Int) (i m : Nat) : Prop := ∃ s p b : Int, h = [s, p, b] ∧ 0 ≤ s ∧ s < m ∧ 0 ≤ p ∧ p ≤ (if 0 < i then 4 else 0) ∧ p ≤ b ∧ b ≤ 12
def OpOK (op n : Int) (fs rs : Nat) : Prop := op = 0 ∨ ((op = 1 ∨ op = 2) ∧ 0 ≤ n ∧ n < 12) ∨ ((op = 4 ∨ op = 5) ∧ 0 ≤ n ∧ n < rs) ∨ (op = 6 ∧ 0 ≤ n ∧ n < fs) ∨ ((op = 3 ∨ op = 7 ∨ op = 8 ∨ op = 9) ∧ n = 0) ∨ (op = 10 ∧ 8 ≤ n ∧ n ≤ 19) ∨ (op = 11 ∧ 2 ≤ n ∧ n ≤ 12)
def RowOK (r : List Int) (fs rs : Nat) : Prop := ∃ op n : Int, r = [op, n] ∧ OpOK op n fs rs
structure CodeOK (hs rs : List (List Int)) : Prop where
  h1 : 1 ≤ hs.length
  h16 : hs.length ≤ 16
  r1 : 1 ≤ rs.length
  hd : ∀ (i : Nat) (h : List Int), hs[i]? = some h → HeadOK h i rs.length
  rw : ∀ r ∈ rs, RowOK r hs.length rs.length
/-- cut up in lists of so many -/
def cutUp (n : Nat) (xs : List Int) : List (List Int) := (List.range (xs.length / n)).map fun k => (xs.drop (k * n)).take n
theorem cutUp_len (n : Nat) (xs : List Int) : (cutUp n xs).length = xs.length / n := by unfold cutUp; rw [List.length_map, List.length_range]
theorem cutUp_get {n : Nat} {xs : List Int} {i : Nat} {x : List Int} (h : (cutUp n xs)[i]? = some x) : i < xs.length / n ∧ x = (xs.drop (i * n)).take n := by
  unfold cutUp at h
  rw [List.getElem?_map] at h
  obtain ⟨k, h1, h2⟩ := Option.map_eq_some_iff.mp h
  have hi := (List.getElem?_eq_some_iff.mp h1)
  have := hi.2
  rw [List.getElem_range] at this
  subst this
  have := hi.1
  rw [List.length_range] at this
  exact ⟨this, h2.symm⟩
theorem cutUp_all {n : Nat} {xs : List Int} {x : List Int} (h : x ∈ cutUp n xs) : x.length = n := by
  obtain ⟨i, hi⟩ := List.mem_iff_getElem?.mp h
  obtain ⟨h1, rfl⟩ := cutUp_get hi
  rw [List.length_take, List.length_drop]
  have h2 := Nat.div_mul_le_self xs.length n
  have h3 : (i + 1) * n ≤ xs.length / n * n := Nat.mul_le_mul_right n (by omega)
  rw [Nat.add_mul] at h3
  omega
theorem cutUp_cons {n : Nat} (hn : 0 < n) {x xs : List Int} (hx : x.length = n) : cutUp n (x ++ xs) = x :: cutUp n xs := by
  unfold cutUp
  have e : (x ++ xs).length / n = xs.length / n + 1 := by rw [List.length_append, hx, Nat.add_comm, Nat.add_div_right _ hn]
  rw [e, List.range_succ_eq_map, List.map_cons, List.map_map]
  congr 1
  · rw [Nat.zero_mul, List.drop_zero, List.take_append_of_le_length (by omega), List.take_of_length_le (by omega)]
  · apply List.map_congr_left
    intro k _
    show ((x ++ xs).drop ((k + 1) * n)).take n = _
    rw [Nat.add_mul, Nat.one_mul, Nat.add_comm, ← List.drop_drop, ← hx, List.drop_left]
theorem cutUp_flatten {n : Nat} (hn : 0 < n) : ∀ {xss : List (List Int)}, (∀ x ∈ xss, x.length = n) → cutUp n xss.flatten = xss
  | [], _ => by unfold cutUp; simp
  | x :: xss, h => by
    rw [List.flatten_cons, cutUp_cons hn (h x List.mem_cons_self), cutUp_flatten hn fun y hy => h y (List.mem_cons_of_mem _ hy)]
theorem flat_sum {n : Nat} : ∀ {xss : List (List Int)}, (∀ x ∈ xss, x.length = n) → xss.flatten.length = n * xss.length
  | [], _ => rfl
  | x :: xss, h => by
    rw [List.flatten_cons, List.length_append, h x List.mem_cons_self, flat_sum fun y hy => h y (List.mem_cons_of_mem _ hy), List.length_cons, Nat.mul_add]
    omega
/-- the list of a code -/
def codeL (hs rs : List (List Int)) : List Int := (hs.length : Int) :: (hs.flatten ++ rs.flatten)
theorem HeadOK.len {h : List Int} {i m : Nat} (H : HeadOK h i m) : h.length = 3 := by obtain ⟨_, _, _, rfl, _⟩ := H; rfl
theorem RowOK.len {h : List Int} {i m : Nat} (H : RowOK h i m) : h.length = 2 := by obtain ⟨_, _, rfl, _⟩ := H; rfl
theorem CodeOK.h3 {hs rs : List (List Int)} (C : CodeOK hs rs) : ∀ x ∈ hs, x.length = 3 := fun x hx => by
  obtain ⟨i, hi⟩ := List.mem_iff_getElem?.mp hx
  exact (C.hd i x hi).len
theorem CodeOK.r2 {hs rs : List (List Int)} (C : CodeOK hs rs) : ∀ x ∈ rs, x.length = 2 := fun x hx => (C.rw x hx).len
theorem codeL_len {hs rs : List (List Int)} (C : CodeOK hs rs) : (codeL hs rs).length = 1 + 3 * hs.length + 2 * rs.length := by
  unfold codeL
  rw [List.length_cons, List.length_append, flat_sum C.h3, flat_sum C.r2]
  omega
/-- whether a list of numbers can be parted, and how -/
def cutH (xs : List Int) (m : Nat) : List (List Int) := cutUp 3 ((xs.drop 1).take (3 * m))
def cutR (xs : List Int) (m : Nat) : List (List Int) := cutUp 2 (xs.drop (3 * m + 1))
def PartOK (xs : List Int) (m : Nat) : Prop := xs[0]? = some (m : Int) ∧ 1 ≤ m ∧ m ≤ 16 ∧ 3 * m + 1 ≤ xs.length ∧ (xs.length - 3 * m) % 2 ≠ 0
def IsCode (xs : List Int) (hs rs : List (List Int)) : Prop := CodeOK hs rs ∧ xs = codeL hs rs
theorem IsCode.part {xs : List Int} {hs rs : List (List Int)} (C : IsCode xs hs rs) : PartOK xs hs.length ∧ cutH xs hs.length = hs ∧ cutR xs hs.length = rs := by
  obtain ⟨C, rfl⟩ := C
  have l := codeL_len C
  refine ⟨⟨rfl, C.h1, C.h16, by omega, by omega⟩, ?_, ?_⟩
  · unfold cutH codeL
    rw [List.drop_succ_cons, List.drop_zero, ← flat_sum C.h3, List.take_left]
    exact cutUp_flatten (by omega) C.h3
  · unfold cutR codeL
    rw [List.drop_succ_cons, ← flat_sum C.h3, List.drop_left]
    exact cutUp_flatten (by omega) C.r2
theorem cut_join {n : Nat} (hn : 0 < n) : ∀ (m : Nat) {xs : List Int}, xs.length = n * m → (cutUp n xs).flatten = xs
  | 0, xs, h => by
    have : xs = [] := List.eq_nil_of_length_eq_zero (by simpa using h)
    subst this
    unfold cutUp
    simp
  | m + 1, xs, h => by
    have hl : (xs.take n).length = n := by rw [List.length_take, h, Nat.mul_add]; omega
    have e : xs = xs.take n ++ xs.drop n := (List.take_append_drop n xs).symm
    rw [e, cutUp_cons hn hl, List.flatten_cons, cut_join hn m (by rw [List.length_drop, h, Nat.mul_add]; omega)]
theorem part_code {xs : List Int} {m : Nat} (P : PartOK xs m) (C : CodeOK (cutH xs m) (cutR xs m)) : IsCode xs (cutH xs m) (cutR xs m) := by
  obtain ⟨e0, m1, m2, l1, l2⟩ := P
  refine ⟨C, ?_⟩
  have lH : ((xs.drop 1).take (3 * m)).length = 3 * m := by rw [List.length_take, List.length_drop]; omega
  have lh : (cutH xs m).length = m := by unfold cutH; rw [cutUp_len, lH]; omega
  unfold codeL
  rw [lh]
  unfold cutH cutR
  rw [cut_join (by omega) m lH, cut_join (by omega) ((xs.length - 3 * m - 1) / 2) (by rw [List.length_drop]; omega)]
  obtain ⟨x, r, rfl⟩ : ∃ x r, xs = x :: r := by
    cases xs with
    | nil => simp at l1
    | cons x r => exact ⟨x, r, rfl⟩
  have ex : x = (m : Int) := by simpa using e0
  subst ex
  rw [List.drop_succ_cons, List.drop_zero, List.drop_succ_cons, List.take_append_drop]
theorem part_uniq {xs : List Int} {m m' : Nat} (P : PartOK xs m) (P' : PartOK xs m') : m = m' := by
  have := P.1.symm.trans P'.1
  injection this with this
  omega
theorem code_no {xs : List Int} {m : Nat} (P : PartOK xs m) (C : ¬ CodeOK (cutH xs m) (cutR xs m)) : ∀ hs rs, ¬ IsCode xs hs rs := fun hs rs I => by
  obtain ⟨P', e1, e2⟩ := I.part
  cases part_uniq P P'
  rw [e1, e2] at C
  exact C I.1
def q_is_whole (Z : Adr) (a : V) (H : Hp) (Q : VK) (E : XK) : Prop := ∃ i : Int, a = .int i ∧ Q (.bl true) H
def q_are_wholes (Z : Adr) (a b : V) (H : Hp) (Q : VK) (E : XK) : Prop := ∃ (xs : List Int) (m : Int), SeqI Z.K H xs a ∧ b = .int m ∧ xs.length ≤ 100000 ∧ ∀ H', Same H H' → Q (.bl (decide ((xs.length : Int) = m))) H'
def q_fits_op (Z : Adr) (a b c d : V) (H : Hp) (Q : VK) (E : XK) : Prop := ∃ (op n : Int) (fs rs : Nat), a = .int op ∧ b = .int n ∧ c = .int fs ∧ d = .int rs ∧ (OpOK op n fs rs → ∀ H', Same H H' → Q (.bl true) H') ∧ (¬ OpOK op n fs rs → ∀ H', Same H H' → Q (.bl false) H')
def q_fits_head (Z : Adr) (a b c : V) (H : Hp) (Q : VK) (E : XK) : Prop := ∃ (h : List Int) (i m : Nat), SeqI Z.K H h a ∧ h.length = 3 ∧ b = .int i ∧ c = .int m ∧ (HeadOK h i m → Q (.bl true) H) ∧ (¬ HeadOK h i m → Q (.bl false) H)
def ListI (K : PySem.W.Frag) (H : Hp) (xss : List (List Int)) (v : V) : Prop := ∃ l vs, v = .ref l ∧ (SqL K H l vs ∨ SqT K H l vs) ∧ Row (SeqI K H) xss vs
theorem ListI.same {K : PySem.W.Frag} {H H' : Hp} {x : List (List Int)} {v : V} (S : Same H H') (h : ListI K H x v) : ListI K H' x v := by
  obtain ⟨t, vs, rfl, e | e, r⟩ := h
  · exact ⟨t, vs, rfl, .inl (S.seq e), r.imp fun _ _ _ z => z.same S⟩
  · exact ⟨t, vs, rfl, .inr (same_sqT S e), r.imp fun _ _ _ z => z.same S⟩
def q_make_code (Z : Adr) (a b : V) (H : Hp) (Q : VK) (E : XK) : Prop := ∃ (hs rs : List (List Int)), ListI Z.K H hs a ∧ ListI Z.K H rs b ∧ (∀ h ∈ hs, h.length = 3) ∧ (∀ r ∈ rs, r.length = 2) ∧ hs.length ≤ 100000 ∧ rs.length ≤ 100000 ∧
  (CodeOK hs rs → ∀ H', Same H H' → Q (.bl true) H') ∧ (¬ CodeOK hs rs → ∀ H', Same H H' → Q (.bl false) H')
def q_cut_up (Z : Adr) (a b : V) (H : Hp) (Q : VK) (E : XK) : Prop := ∃ (l : Addr) (xs : List Int) (n : Nat), a = .ref l ∧ b = .int n ∧ 0 < n ∧ n ≤ 1000 ∧ xs.length ≤ 100000 ∧ SqL Z.K H l (xs.map V.int) ∧ ∀ l' vs H', Same H H' → H l' = none → H' l' = some (.lst vs) → TupsAt H' (cutUp n xs) vs → Q (.ref l') H'
/-- heads and rows of a code as they are told -/
def Told (H0 H : Hp) (xss : List (List Int)) (l : Addr) : Prop := H0 l = none ∧ ∃ vs, H l = some (.lst vs) ∧ TupsAt H xss vs
def q_parted_code (Z : Adr) (a : V) (H : Hp) (Q : VK) (E : XK) : Prop := ∃ (l : Addr) (xs : List Int), a = .ref l ∧ SqL Z.K H l (xs.map V.int) ∧ xs.length ≤ 100000 ∧
  (∀ hs rs, IsCode xs hs rs → ∀ t lh lr H', Same H H' → H' t = some (.tup [.ref lh, .ref lr]) → lh ≠ lr → Told H H' hs lh → Told H H' rs lr → Q (.ref t) H') ∧
  ((∀ hs rs, ¬ IsCode xs hs rs) → ∀ H', Same H H' → E (.ref Z.c_NoCode) none H')
def q_is_code (Z : Adr) (a : V) (H : Hp) (Q : VK) (E : XK) : Prop := ∃ (l : Addr) (xs : List Int), a = .ref l ∧ SqL Z.K H l (xs.map V.int) ∧ xs.length ≤ 100000 ∧ (∀ hs rs, IsCode xs hs rs → ∀ H', Same H H' → Q (.bl true) H') ∧ ((∀ hs rs, ¬ IsCode xs hs rs) → ∀ H', Same H H' → Q (.bl false) H')
def q_heads_of (Z : Adr) (a : V) (H : Hp) (Q : VK) (E : XK) : Prop := ∃ (l : Addr) (xs : List Int) (hs rs : List (List Int)), a = .ref l ∧ SqL Z.K H l (xs.map V.int) ∧ xs.length ≤ 100000 ∧ IsCode xs hs rs ∧ ∀ l H', Same H H' → Told H H' hs l → Q (.ref l) H'
def q_rows_of (Z : Adr) (a : V) (H : Hp) (Q : VK) (E : XK) : Prop := ∃ (l : Addr) (xs : List Int) (hs rs : List (List Int)), a = .ref l ∧ SqL Z.K H l (xs.map V.int) ∧ xs.length ≤ 100000 ∧ IsCode xs hs rs ∧ ∀ l H', Same H H' → Told H H' rs l → Q (.ref l) H'
def q_code_of (Z : Adr) (a b : V) (H : Hp) (Q : VK) (E : XK) : Prop := ∃ (hs rs : List (List Int)), ListI Z.K H hs a ∧ ListI Z.K H rs b ∧ CodeOK hs rs ∧ rs.length ≤ 30000 ∧ ∀ l H', Same H H' → H l = none → H' l = some (.lst ((codeL hs rs).map V.int)) → Q (.ref l) H'

abbrev PN : Nat := 3
/-! ### pens -/
def q_Lpen (Z : Adr) (a : V) (H : Hp) (Q : VK) (E : XK) : Prop := ∃ sa ns, a = .ref sa ∧ Scr Z.K H sa ns ∧ ∀ p H', Same H H' → H p = none → Pn Z.K PN H' p → Q (.ref p) H'
def q_Lmixed (Z : Adr) (a b : V) (H : Hp) (Q : VK) (E : XK) : Prop := ∃ c k, a = .int c ∧ b = .int k ∧ ∀ z, Q (.int z) H
def q_Ltake (Z : Adr) (a b : V) (H : Hp) (Q : VK) (E : XK) : Prop := ∃ p m, a = .ref p ∧ b = .int m ∧ 0 < m ∧ m < 10 ^ 70 ∧ Pn Z.K PN H p ∧ ∀ v H', 0 ≤ v → v < m → Pn Z.K PN H' p → But p H H' → Q (.int v) H'

/-! ### codes as laws draw them -/
def q_Lnumber (Z : Adr) (a : V) (H : Hp) (Q : VK) (E : XK) : Prop := ∃ p, a = .ref p ∧ Pn Z.K PN H p ∧ ∀ v H', -10 ^ 60 ≤ v → v ≤ 10 ^ 60 → Pn Z.K PN H' p → But p H H' → Q (.int v) H'
/-- heads ahead of their starts -/
def PreH (hs : List (List Int)) : Prop := ∀ (i : Nat) (h : List Int), hs[i]? = some h → ∃ s p b : Int, h = [s, p, b] ∧ 0 ≤ p ∧ p ≤ (if 0 < i then 4 else 0) ∧ p ≤ b ∧ b ≤ 12
theorem PreH.mem {hs : List (List Int)} (h : PreH hs) {x : List Int} (hx : x ∈ hs) : ∃ s p b : Int, x = [s, p, b] := by
  obtain ⟨i, hi⟩ := List.mem_iff_getElem?.mp hx
  obtain ⟨s, p, b, e, _⟩ := h i x hi
  exact ⟨s, p, b, e⟩
def q_Lneeds (Z : Adr) (a b c : V) (H : Hp) (Q : VK) (E : XK) : Prop := ∃ (op n : Int) (lh : Addr) (hs : List (List Int)) (vs : List V) (m : Nat), a = .int op ∧ b = .int n ∧ c = .ref lh ∧ H lh = some (.lst vs) ∧ TupsAt H hs vs ∧ PreH hs ∧ OpOK op n hs.length m ∧ ∀ i H', Same H H' → Q (.int i) H'
def q_Lrow (Z : Adr) (a b c d : V) (H : Hp) (Q : VK) (E : XK) : Prop := ∃ (p : Addr) (ht : Int) (m : Nat) (lh : Addr) (hs : List (List Int)) (vs : List V), a = .ref p ∧ b = .int ht ∧ c = .int m ∧ d = .ref lh ∧ 0 < m ∧ m ≤ 1000 ∧ lh ≠ p ∧ Pn Z.K PN H p ∧ H lh = some (.lst vs) ∧ TupsAt H hs vs ∧ PreH hs ∧ 0 < hs.length ∧ hs.length ≤ 1000 ∧
  ∀ t op n H', But p H H' → Pn Z.K PN H' p → H' t = some (.tup [.int op, .int n]) → OpOK op n hs.length m → Q (.ref t) H'
def q_Lheight (Z : Adr) (a b c d : V) (H : Hp) (Q : VK) (E : XK) : Prop := ∃ (op n : Int) (lh : Addr) (hs : List (List Int)) (vs : List V) (m : Nat) (ht : Int), a = .int op ∧ b = .int n ∧ c = .ref lh ∧ d = .int ht ∧ H lh = some (.lst vs) ∧ TupsAt H hs vs ∧ PreH hs ∧ OpOK op n hs.length m ∧ ∀ i H', Same H H' → Q (.int i) H'
def q_Lcode (Z : Adr) (a : V) (H : Hp) (Q : VK) (E : XK) : Prop := ∃ p, a = .ref p ∧ Pn Z.K PN H p ∧ ∀ t lh lr vh vr hs rs H', But p H H' → Pn Z.K PN H' p → H' t = some (.tup [.ref lh, .ref lr]) → lh ≠ p → lr ≠ p → H' lh = some (.lst vh) → H' lr = some (.lst vr) → TupsAt H' hs vh → TupsAt H' rs vr → CodeOK hs rs → rs.length ≤ 24 → Q (.ref t) H'

def q_Llist (Z : Adr) (a b : V) (H : Hp) (Q : VK) (E : XK) : Prop := ∃ lh lr hs rs vh vr, a = .ref lh ∧ b = .ref lr ∧ CodeOK hs rs ∧ rs.length ≤ 30000 ∧ H lh = some (.lst vh) ∧ H lr = some (.lst vr) ∧ TupsAt H hs vh ∧ TupsAt H rs vr ∧
  ∀ l H', Same H H' → H l = none → H' l = some (.lst ((codeL hs rs).map V.int)) → Q (.ref l) H'
def q_Ltuples (Z : Adr) (a b : V) (H : Hp) (Q : VK) (E : XK) : Prop := ∃ (l : Addr) (m : Int) (xss : List (List Int)) (vs : List V), a = .ref l ∧ b = .int m ∧ H l = some (.lst vs) ∧ TupsAt H xss vs ∧ (∀ x ∈ xss, (x.length : Int) = m) ∧ ∀ H', Same H H' → Q (.bl true) H'
def q_law (Z : Adr) (v : V) (H : Hp) (Q : VK) (E : XK) : Prop := ∃ (a : Addr) (ns : List Int), v = .ref a ∧ Only H ∧ Scr Z.K H a ns ∧ ns.length ≤ 63 ∧ ∀ H', Q (.bl true) H'

def sp_is_whole (Z : Adr) : Sp := Sp1 (q_is_whole Z)
theorem cl_is_whole {Z : Adr} {a0 : V} {H : Hp} {Q : VK} {E : XK} (h : q_is_whole Z a0 H Q E) : sp_is_whole Z [a0] H Q E := ⟨a0, rfl, h⟩
def sp_are_wholes (Z : Adr) : Sp := Sp2 (q_are_wholes Z)
theorem cl_are_wholes {Z : Adr} {a0 a1 : V} {H : Hp} {Q : VK} {E : XK} (h : q_are_wholes Z a0 a1 H Q E) : sp_are_wholes Z [a0, a1] H Q E := ⟨a0, a1, rfl, h⟩
def sp_fits_op (Z : Adr) : Sp := Sp4 (q_fits_op Z)
theorem cl_fits_op {Z : Adr} {a0 a1 a2 a3 : V} {H : Hp} {Q : VK} {E : XK} (h : q_fits_op Z a0 a1 a2 a3 H Q E) : sp_fits_op Z [a0, a1, a2, a3] H Q E := ⟨a0, a1, a2, a3, rfl, h⟩
def sp_fits_head (Z : Adr) : Sp := Sp3 (q_fits_head Z)
theorem cl_fits_head {Z : Adr} {a0 a1 a2 : V} {H : Hp} {Q : VK} {E : XK} (h : q_fits_head Z a0 a1 a2 H Q E) : sp_fits_head Z [a0, a1, a2] H Q E := ⟨a0, a1, a2, rfl, h⟩
def sp_make_code (Z : Adr) : Sp := Sp2 (q_make_code Z)
theorem cl_make_code {Z : Adr} {a0 a1 : V} {H : Hp} {Q : VK} {E : XK} (h : q_make_code Z a0 a1 H Q E) : sp_make_code Z [a0, a1] H Q E := ⟨a0, a1, rfl, h⟩
def sp_cut_up (Z : Adr) : Sp := Sp2 (q_cut_up Z)
theorem cl_cut_up {Z : Adr} {a0 a1 : V} {H : Hp} {Q : VK} {E : XK} (h : q_cut_up Z a0 a1 H Q E) : sp_cut_up Z [a0, a1] H Q E := ⟨a0, a1, rfl, h⟩
def sp_parted_code (Z : Adr) : Sp := Sp1 (q_parted_code Z)
theorem cl_parted_code {Z : Adr} {a0 : V} {H : Hp} {Q : VK} {E : XK} (h : q_parted_code Z a0 H Q E) : sp_parted_code Z [a0] H Q E := ⟨a0, rfl, h⟩
def sp_is_code (Z : Adr) : Sp := Sp1 (q_is_code Z)
theorem cl_is_code {Z : Adr} {a0 : V} {H : Hp} {Q : VK} {E : XK} (h : q_is_code Z a0 H Q E) : sp_is_code Z [a0] H Q E := ⟨a0, rfl, h⟩
def sp_heads_of (Z : Adr) : Sp := Sp1 (q_heads_of Z)
theorem cl_heads_of {Z : Adr} {a0 : V} {H : Hp} {Q : VK} {E : XK} (h : q_heads_of Z a0 H Q E) : sp_heads_of Z [a0] H Q E := ⟨a0, rfl, h⟩
def sp_rows_of (Z : Adr) : Sp := Sp1 (q_rows_of Z)
theorem cl_rows_of {Z : Adr} {a0 : V} {H : Hp} {Q : VK} {E : XK} (h : q_rows_of Z a0 H Q E) : sp_rows_of Z [a0] H Q E := ⟨a0, rfl, h⟩
def sp_code_of (Z : Adr) : Sp := Sp2 (q_code_of Z)
theorem cl_code_of {Z : Adr} {a0 a1 : V} {H : Hp} {Q : VK} {E : XK} (h : q_code_of Z a0 a1 H Q E) : sp_code_of Z [a0, a1] H Q E := ⟨a0, a1, rfl, h⟩
def sp_Lpen (Z : Adr) : Sp := Sp1 (q_Lpen Z)
theorem cl_Lpen {Z : Adr} {a0 : V} {H : Hp} {Q : VK} {E : XK} (h : q_Lpen Z a0 H Q E) : sp_Lpen Z [a0] H Q E := ⟨a0, rfl, h⟩
def sp_Lmixed (Z : Adr) : Sp := Sp2 (q_Lmixed Z)
theorem cl_Lmixed {Z : Adr} {a0 a1 : V} {H : Hp} {Q : VK} {E : XK} (h : q_Lmixed Z a0 a1 H Q E) : sp_Lmixed Z [a0, a1] H Q E := ⟨a0, a1, rfl, h⟩
def sp_Ltake (Z : Adr) : Sp := Sp2 (q_Ltake Z)
theorem cl_Ltake {Z : Adr} {a0 a1 : V} {H : Hp} {Q : VK} {E : XK} (h : q_Ltake Z a0 a1 H Q E) : sp_Ltake Z [a0, a1] H Q E := ⟨a0, a1, rfl, h⟩
def sp_Lnumber (Z : Adr) : Sp := Sp1 (q_Lnumber Z)
theorem cl_Lnumber {Z : Adr} {a0 : V} {H : Hp} {Q : VK} {E : XK} (h : q_Lnumber Z a0 H Q E) : sp_Lnumber Z [a0] H Q E := ⟨a0, rfl, h⟩
def sp_Lneeds (Z : Adr) : Sp := Sp3 (q_Lneeds Z)
theorem cl_Lneeds {Z : Adr} {a0 a1 a2 : V} {H : Hp} {Q : VK} {E : XK} (h : q_Lneeds Z a0 a1 a2 H Q E) : sp_Lneeds Z [a0, a1, a2] H Q E := ⟨a0, a1, a2, rfl, h⟩
def sp_Lrow (Z : Adr) : Sp := Sp4 (q_Lrow Z)
theorem cl_Lrow {Z : Adr} {a0 a1 a2 a3 : V} {H : Hp} {Q : VK} {E : XK} (h : q_Lrow Z a0 a1 a2 a3 H Q E) : sp_Lrow Z [a0, a1, a2, a3] H Q E := ⟨a0, a1, a2, a3, rfl, h⟩
def sp_Lheight (Z : Adr) : Sp := Sp4 (q_Lheight Z)
theorem cl_Lheight {Z : Adr} {a0 a1 a2 a3 : V} {H : Hp} {Q : VK} {E : XK} (h : q_Lheight Z a0 a1 a2 a3 H Q E) : sp_Lheight Z [a0, a1, a2, a3] H Q E := ⟨a0, a1, a2, a3, rfl, h⟩
def sp_Lcode (Z : Adr) : Sp := Sp1 (q_Lcode Z)
theorem cl_Lcode {Z : Adr} {a0 : V} {H : Hp} {Q : VK} {E : XK} (h : q_Lcode Z a0 H Q E) : sp_Lcode Z [a0] H Q E := ⟨a0, rfl, h⟩
def sp_Llist (Z : Adr) : Sp := Sp2 (q_Llist Z)
theorem cl_Llist {Z : Adr} {a0 a1 : V} {H : Hp} {Q : VK} {E : XK} (h : q_Llist Z a0 a1 H Q E) : sp_Llist Z [a0, a1] H Q E := ⟨a0, a1, rfl, h⟩
def sp_Ltuples (Z : Adr) : Sp := Sp2 (q_Ltuples Z)
theorem cl_Ltuples {Z : Adr} {a0 a1 : V} {H : Hp} {Q : VK} {E : XK} (h : q_Ltuples Z a0 a1 H Q E) : sp_Ltuples Z [a0, a1] H Q E := ⟨a0, a1, rfl, h⟩
def sp_law (Z : Adr) : Sp := Sp1 (q_law Z)
theorem cl_law {Z : Adr} {a0 : V} {H : Hp} {Q : VK} {E : XK} (h : q_law Z a0 H Q E) : sp_law Z [a0] H Q E := ⟨a0, rfl, h⟩
theorem c_take {Z : Adr} {H : Hp} {Q : VK} {E : XK} {p : Addr} {m : Int} (hm : 0 < m ∧ m < 10 ^ 70) (hp : Pn Z.K PN H p) (q : ∀ v H', 0 ≤ v → v < m → Pn Z.K PN H' p → But p H H' → Q (.int v) H') : sp_Ltake Z [.ref p, .int m] H Q E :=
  cl_Ltake ⟨p, m, rfl, rfl, hm.1, hm.2, hp, q⟩

def t_is_whole (Z : Adr) (W : WX) : TS := (tRet (tAndV (tCB (rIsi2 Z.K) (tCons (tVar 0) (tCons (tC (.ty "int")) tNil))) (tNotV (tCB (rIsi2 Z.K) (tCons (tVar 0) (tCons (tC (.ty "bool")) tNil))))))
def t_are_wholes (Z : Adr) (W : WX) : TS := (tSeq (tIfS (tOr (tNot (tB (tCB (rIsi2 Z.K) (tCons (tVar 0) (tCons (tTup (tCons (tC (.ty "list")) (tCons (tC (.ty "tuple")) tNil))) tNil))))) (tTest (tOp (rNeU Z.K) (tCB (rLen Z.K) (tCons (tVar 0) tNil)) (tVar 1)))) (tRet (tC (.bl false))) tNext)
    (tRet (tCB (rAll Z.K) (tCons (tLc (iUn Z.K (tVar 0)) (gName 3) tYes (tCallS (sp_is_whole Z) (WE fun _ _ _ _ => False) (tCons (tVar 3) tNil)) [2, 3]) tNil))))
def t_fits_op (Z : Adr) (W : WX) : TS := (tSeq (tIfS (tTest (tOp (rEqU Z.K) (tVar 0) (tC (.int 0)))) (tRet (tC (.bl true))) tNext)
    (tSeq (tIfS (tTest (tOp (rIn Z.K false) (tVar 0) (tTup (tCons (tC (.int 1)) (tCons (tC (.int 2)) tNil))))) (tRet (tChain (rI0 fun i j => .bl (decide (i ≤ j))) (rI0 fun i j => .bl (decide (i < j))) (tC (.int 0)) (tVar 1) (tC (.int 12)))) tNext)
    (tSeq (tIfS (tTest (tOp (rIn Z.K false) (tVar 0) (tTup (tCons (tC (.int 4)) (tCons (tC (.int 5)) tNil))))) (tRet (tChain (rI0 fun i j => .bl (decide (i ≤ j))) (rI0 fun i j => .bl (decide (i < j))) (tC (.int 0)) (tVar 1) (tVar 3))) tNext)
    (tSeq (tIfS (tTest (tOp (rEqU Z.K) (tVar 0) (tC (.int 6)))) (tRet (tChain (rI0 fun i j => .bl (decide (i ≤ j))) (rI0 fun i j => .bl (decide (i < j))) (tC (.int 0)) (tVar 1) (tVar 2))) tNext)
    (tSeq (tIfS (tTest (tOp (rIn Z.K false) (tVar 0) (tTup (tCons (tC (.int 3)) (tCons (tC (.int 7)) (tCons (tC (.int 8)) (tCons (tC (.int 9)) tNil))))))) (tRet (tOp (rEqU Z.K) (tVar 1) (tC (.int 0)))) tNext)
    (tSeq (tIfS (tTest (tOp (rEqU Z.K) (tVar 0) (tC (.int 10)))) (tRet (tChain (rI0 fun i j => .bl (decide (i ≤ j))) (rI0 fun i j => .bl (decide (i ≤ j))) (tC (.int 8)) (tVar 1) (tC (.int 19)))) tNext)
    (tRet (tAndV (tOp (rEqU Z.K) (tVar 0) (tC (.int 11))) (tChain (rI0 fun i j => .bl (decide (i ≤ j))) (rI0 fun i j => .bl (decide (i ≤ j))) (tC (.int 2)) (tVar 1) (tC (.int 12)))))))))))
def t_fits_head (Z : Adr) (W : WX) : TS := (tSeq (tAsg (tVar 0) (gUn Z.K 3 (gCons (gName 3) (gCons (gName 4) (gCons (gName 5) gNil)))))
    (tSeq (tIfS (tOr (tNot (tTest (tChain (rI0 fun i j => .bl (decide (i ≤ j))) (rI0 fun i j => .bl (decide (i < j))) (tC (.int 0)) (tVar 3) (tVar 2)))) (tNot (tTest (tChain (rI0 fun i j => .bl (decide (i ≤ j))) (rI0 fun i j => .bl (decide (i ≤ j))) (tC (.int 0)) (tVar 4) (tOp rMul (tC (.int 4)) (tCB rInt1 (tCons (tOp (rI0 fun i j => .bl (decide (j < i))) (tVar 1) (tC (.int 0))) tNil))))))) (tRet (tC (.bl false))) tNext)
    (tRet (tChain (rI0 fun i j => .bl (decide (i ≤ j))) (rI0 fun i j => .bl (decide (i ≤ j))) (tVar 4) (tVar 5) (tC (.int 12))))))
def t_make_code (Z : Adr) (W : WX) : TS := (tSeq (tIfS (tOr (tNot (tTest (tChain (rI0 fun i j => .bl (decide (i ≤ j))) (rI0 fun i j => .bl (decide (i ≤ j))) (tC (.int 1)) (tCB (rLen Z.K) (tCons (tVar 0) tNil)) (tC (.int 16))))) (tTest (tOp (rI0 fun i j => .bl (decide (i < j))) (tCB (rLen Z.K) (tCons (tVar 1) tNil)) (tC (.int 1))))) (tRet (tC (.bl false))) tNext)
    (tSeq (tFor (iRng1 (tCons (tCB (rLen Z.K) (tCons (tVar 0) tNil)) tNil)) (gName 2) (tIfS (tNot (tB (tCallS (sp_fits_head Z) (WE W) (tCons (tOp (rIx Z.K) (tVar 0) (tVar 2)) (tCons (tVar 2) (tCons (tCB (rLen Z.K) (tCons (tVar 1) tNil)) tNil)))))) (tRet (tC (.bl false))) tNext))
    (tSeq (tFor (iUn Z.K (tVar 1)) (gUn Z.K 2 (gCons (gName 3) (gCons (gName 4) gNil))) (tIfS (tNot (tB (tCallS (sp_fits_op Z) (WE W) (tCons (tVar 3) (tCons (tVar 4) (tCons (tCB (rLen Z.K) (tCons (tVar 0) tNil)) (tCons (tCB (rLen Z.K) (tCons (tVar 1) tNil)) tNil))))))) (tRet (tC (.bl false))) tNext))
    (tRet (tC (.bl true))))))
def t_cut_up (Z : Adr) (W : WX) : TS := (tSeq (tAsg (tLst tNil) (gName 2))
    (tSeq (tFor (iRng1 (tCons (tOp rFdv (tCB (rLen Z.K) (tCons (tVar 0) tNil)) (tVar 1)) tNil)) (gName 3) (tDrop (tBM Z.K "list" rAppend (tVar 2) (tCons (tCB (rTupOf Z.K) (tCons (tSl (rSlL Z.K) (tVar 0) (tPart (tOp rMul (tVar 3) (tVar 1))) (tPart (tOp (rAddU Z.K) (tOp rMul (tVar 3) (tVar 1)) (tVar 1)))) tNil)) tNil))))
    (tRet (tVar 2))))
def t_parted_code (Z : Adr) (W : WX) : TS := (tSeq (tIfS (tOr (tNot (tB (tCB (rIsi2 Z.K) (tCons (tVar 0) (tCons (tC (.ty "list")) tNil))))) (tOr (tTest (tOp (rEqU Z.K) (tCB (rLen Z.K) (tCons (tVar 0) tNil)) (tC (.int 0)))) (tNot (tB (tCallS (sp_are_wholes Z) (WE W) (tCons (tVar 0) (tCons (tCB (rLen Z.K) (tCons (tVar 0) tNil)) tNil))))))) (sRaiseN Z.c_NoCode W) tNext)
    (tSeq (tAsg (tOp (rIx Z.K) (tVar 0) (tC (.int 0))) (gName 1))
    (tSeq (tIfS (tOr (tNot (tTest (tChain (rI0 fun i j => .bl (decide (i ≤ j))) (rI0 fun i j => .bl (decide (i ≤ j))) (tC (.int 1)) (tVar 1) (tC (.int 16))))) (tOr (tTest (tOp (rI0 fun i j => .bl (decide (i < j))) (tCB (rLen Z.K) (tCons (tVar 0) tNil)) (tOp (rAddU Z.K) (tOp rMul (tC (.int 3)) (tVar 1)) (tC (.int 1))))) (tTest (tOp (rEqU Z.K) (tOp rMod (tOp (rI0 fun i j => .int (i - j)) (tCB (rLen Z.K) (tCons (tVar 0) tNil)) (tOp rMul (tC (.int 3)) (tVar 1))) (tC (.int 2))) (tC (.int 0)))))) (sRaiseN Z.c_NoCode W) tNext)
    (tSeq (tAsg (tCallS (sp_cut_up Z) (WE W) (tCons (tSl (rSlL Z.K) (tVar 0) (tPart (tC (.int 1))) (tPart (tOp (rAddU Z.K) (tOp rMul (tC (.int 3)) (tVar 1)) (tC (.int 1))))) (tCons (tC (.int 3)) tNil))) (gName 2))
    (tSeq (tAsg (tCallS (sp_cut_up Z) (WE W) (tCons (tSl (rSlL Z.K) (tVar 0) (tPart (tOp (rAddU Z.K) (tOp rMul (tC (.int 3)) (tVar 1)) (tC (.int 1)))) tNoPart) (tCons (tC (.int 2)) tNil))) (gName 3))
    (tSeq (tIfS (tNot (tB (tCallS (sp_make_code Z) (WE W) (tCons (tVar 2) (tCons (tVar 3) tNil))))) (sRaiseN Z.c_NoCode W) tNext)
    (tRet (tTup (tCons (tVar 2) (tCons (tVar 3) tNil))))))))))
def t_is_code (Z : Adr) (W : WX) : TS := (tSeq (tAsg (tC (.bl true)) (gName 1))
    (tSeq (sTryOnly Z.K (.ref Z.c_NoCode) (fun W => (tDrop (tCallS (sp_parted_code Z) (WE W) (tCons (tVar 0) tNil)))) (fun a cls d => (tAsg (tC (.bl false)) (gName 1))) W)
    (tRet (tVar 1))))
def t_heads_of (Z : Adr) (W : WX) : TS := (tRet (tOp (rIx Z.K) (tCallS (sp_parted_code Z) (WE W) (tCons (tVar 0) tNil)) (tC (.int 0))))
def t_rows_of (Z : Adr) (W : WX) : TS := (tRet (tOp (rIx Z.K) (tCallS (sp_parted_code Z) (WE W) (tCons (tVar 0) tNil)) (tC (.int 1))))
def t_code_of (Z : Adr) (W : WX) : TS := (tSeq (tIfS (tOr (tNot (tB (tCB (rIsi2 Z.K) (tCons (tVar 0) (tCons (tTup (tCons (tC (.ty "list")) (tCons (tC (.ty "tuple")) tNil))) tNil))))) (tNot (tB (tCB (rIsi2 Z.K) (tCons (tVar 1) (tCons (tTup (tCons (tC (.ty "list")) (tCons (tC (.ty "tuple")) tNil))) tNil)))))) (sRaiseN Z.c_NoCode W) tNext)
    (tSeq (tIfS (tOr (tNot (tB (tCB (rAll Z.K) (tCons (tLc (iUn Z.K (tVar 0)) (gName 2) tYes (tCallS (sp_are_wholes Z) (WE fun _ _ _ _ => False) (tCons (tVar 2) (tCons (tC (.int 3)) tNil))) [5, 2]) tNil)))) (tNot (tB (tCB (rAll Z.K) (tCons (tLc (iUn Z.K (tVar 1)) (gName 3) tYes (tCallS (sp_are_wholes Z) (WE fun _ _ _ _ => False) (tCons (tVar 3) (tCons (tC (.int 2)) tNil))) [5, 3]) tNil))))) (sRaiseN Z.c_NoCode W) tNext)
    (tSeq (tIfS (tNot (tB (tCallS (sp_make_code Z) (WE W) (tCons (tVar 0) (tCons (tVar 1) tNil))))) (sRaiseN Z.c_NoCode W) tNext)
    (tSeq (tAsg (tLst (tCons (tCB (rLen Z.K) (tCons (tVar 0) tNil)) tNil)) (gName 4))
    (tSeq (tFor (iUn Z.K (tVar 0)) (gName 2) (tDrop (tBM Z.K "list" rExtend (tVar 4) (tCons (tCB (rListOf Z.K) (tCons (tVar 2) tNil)) tNil))))
    (tSeq (tFor (iUn Z.K (tVar 1)) (gName 3) (tDrop (tBM Z.K "list" rExtend (tVar 4) (tCons (tCB (rListOf Z.K) (tCons (tVar 3) tNil)) tNil))))
    (tRet (tVar 4))))))))
def t_Lpen (Z : Adr) (W : WX) : TS := (tRet (tLst (tCons (tVar 0) (tCons (tC (.int 0)) (tCons (tC (.int 0)) (tCons (tC (.int 0)) tNil))))))
def t_Lmixed (Z : Adr) (W : WX) : TS := (tSeq (tAsg (tOp rMod (tOp rMul (tOp (rAddU Z.K) (tOp (rAddU Z.K) (tOp rMod (tVar 0) (tC (.int 2147483647))) (tOp rMul (tC (.int 7919)) (tVar 1))) (tC (.int 1))) (tC (.int 48271))) (tC (.int 2147483629))) (gName 2))
    (tRet (tOp rFdv (tOp rMod (tOp rMul (tVar 2) (tOp (rAddU Z.K) (tOp (rAddU Z.K) (tOp rMod (tVar 2) (tC (.int 65521))) (tVar 1)) (tC (.int 2)))) (tC (.int 2147483587))) (tC (.int 5)))))
def t_Ltake (Z : Adr) (W : WX) : TS := (C8.tCut (tIfS (tTest (tOp (rEqU Z.K) (tOp (rIx Z.K) (tVar 0) (tC (.int 2))) (tC (.int 0)))) (tSeq (tAsg (tC (.int 61)) (gName 2))
    (C8.tCut (tIfS (tTest (tOp (rI0 fun i j => .bl (decide (j < i))) (tCB (rLen Z.K) (tCons (tOp (rIx Z.K) (tVar 0) (tC (.int 0))) tNil)) (tC (.int 0)))) (tAsg (tOp (rIx Z.K) (tOp (rIx Z.K) (tVar 0) (tC (.int 0))) (tOp rMod (tOp (rIx Z.K) (tVar 0) (tC (.int 1))) (tCB (rLen Z.K) (tCons (tOp (rIx Z.K) (tVar 0) (tC (.int 0))) tNil)))) (gName 2)) tNext)
    (tSeq (tAsg (tOp (rAddU Z.K) (tOp (rIx Z.K) (tVar 0) (tC (.int 1))) (tC (.int 1))) (gSub (tVar 0) (tC (.int 1)) rSetL))
    (tSeq (tIfS (tOr (tTest (tOp (rI0 fun i j => .bl (decide (i < j))) (tVar 2) (tC (.int 1000000000000000000)))) (tTest (tOp (rI0 fun i j => .bl (decide (j < i))) (tOp (rIx Z.K) (tVar 0) (tC (.int 1))) (tCB (rLen Z.K) (tCons (tOp (rIx Z.K) (tVar 0) (tC (.int 0))) tNil))))) (tSeq (tAsg (tOp (rAddU Z.K) (tOp (rIx Z.K) (tVar 0) (tC (.int 3))) (tC (.int 1))) (gSub (tVar 0) (tC (.int 3)) rSetL))
    (tRet (tOp rMod (tCallS (sp_Lmixed Z) (WE W) (tCons (tVar 2) (tCons (tOp (rIx Z.K) (tVar 0) (tC (.int 3))) tNil))) (tVar 1)))) tNext)
    (tAsg (tVar 2) (gSub (tVar 0) (tC (.int 2)) rSetL)))))) tNext)
    (tSeq (tAsg (tOp rMod (tOp (rIx Z.K) (tVar 0) (tC (.int 2))) (tVar 1)) (gName 3))
    (tSeq (tAsg (tOp rFdv (tOp (rIx Z.K) (tVar 0) (tC (.int 2))) (tVar 1)) (gSub (tVar 0) (tC (.int 2)) rSetL))
    (tRet (tVar 3)))))
def t_Lnumber (Z : Adr) (W : WX) : TS := (tSeq (tIfS (tTest (tOp (rEqU Z.K) (tCallS (sp_Ltake Z) (WE W) (tCons (tVar 0) (tCons (tC (.int 10)) tNil))) (tC (.int 9)))) (tRet (tOp (rIx Z.K) (tLst (tCons (tC (.int 100000000000000000000000000000000000000000000000000)) (tCons (tOp (rI0 fun i j => .int (i - j)) (tC (.int 0)) (tC (.int 100000000000000000000000000000000000000000000000000))) (tCons (tOp (rI0 fun i j => .int (i - j)) (tC (.int 10000000000000000000000000000000000000000)) (tC (.int 1))) (tCons (tOp (rI0 fun i j => .int (i - j)) (tC (.int 0)) (tC (.int 7))) tNil))))) (tCallS (sp_Ltake Z) (WE W) (tCons (tVar 0) (tCons (tC (.int 4)) tNil))))) tNext)
    (tRet (tOp (rI0 fun i j => .int (i - j)) (tCallS (sp_Ltake Z) (WE W) (tCons (tVar 0) (tCons (tC (.int 12)) tNil))) (tC (.int 3)))))
def t_Lneeds (Z : Adr) (W : WX) : TS := (tSeq (tIfS (tTest (tOp (rEqU Z.K) (tVar 0) (tC (.int 6)))) (tRet (tOp (rIx Z.K) (tOp (rIx Z.K) (tVar 2) (tVar 1)) (tC (.int 1)))) tNext)
    (tSeq (tIfS (tTest (tOp (rEqU Z.K) (tVar 0) (tC (.int 10)))) (tRet (tOp (rIx Z.K) (tLst (tCons (tC (.int 2)) (tCons (tC (.int 2)) (tCons (tC (.int 2)) (tCons (tC (.int 2)) (tCons (tC (.int 2)) (tCons (tC (.int 2)) (tCons (tC (.int 2)) (tCons (tC (.int 2)) (tCons (tC (.int 2)) (tCons (tC (.int 3)) (tCons (tC (.int 1)) (tCons (tC (.int 0)) tNil))))))))))))) (tOp (rI0 fun i j => .int (i - j)) (tVar 1) (tC (.int 8))))) tNext)
    (tRet (tOp (rIx Z.K) (tLst (tCons (tC (.int 0)) (tCons (tC (.int 0)) (tCons (tC (.int 1)) (tCons (tC (.int 1)) (tCons (tC (.int 0)) (tCons (tC (.int 1)) (tCons (tC (.int 0)) (tCons (tC (.int 1)) (tCons (tC (.int 1)) (tCons (tC (.int 0)) (tCons (tC (.int 0)) (tCons (tC (.int 1)) tNil))))))))))))) (tVar 0)))))
def t_Lrow (Z : Adr) (W : WX) : TS := (tSeq (tAsg (tOp (rIx Z.K) (tLst (tCons (tC (.int 0)) (tCons (tC (.int 0)) (tCons (tC (.int 0)) (tCons (tC (.int 1)) (tCons (tC (.int 1)) (tCons (tC (.int 2)) (tCons (tC (.int 3)) (tCons (tC (.int 4)) (tCons (tC (.int 5)) (tCons (tC (.int 6)) (tCons (tC (.int 6)) (tCons (tC (.int 7)) (tCons (tC (.int 8)) (tCons (tC (.int 9)) (tCons (tC (.int 10)) (tCons (tC (.int 10)) (tCons (tC (.int 10)) (tCons (tC (.int 11)) (tCons (tC (.int 0)) (tCons (tC (.int 10)) tNil))))))))))))))))))))) (tCallS (sp_Ltake Z) (WE W) (tCons (tVar 0) (tCons (tC (.int 20)) tNil)))) (gName 4))
    (tSeq (tAsg (tC (.int 0)) (gName 5))
    (C8.tCut (tIfS (tTest (tOp (rEqU Z.K) (tVar 4) (tC (.int 0)))) (tAsg (tCallS (sp_Lnumber Z) (WE W) (tCons (tVar 0) tNil)) (gName 5)) tNext)
    (C8.tCut (tIfS (tTest (tOp (rIn Z.K false) (tVar 4) (tTup (tCons (tC (.int 1)) (tCons (tC (.int 2)) tNil))))) (tAsg (tCallS (sp_Ltake Z) (WE W) (tCons (tVar 0) (tCons (tOp (rIx Z.K) (tLst (tCons (tC (.int 3)) (tCons (tC (.int 3)) (tCons (tC (.int 12)) tNil)))) (tCallS (sp_Ltake Z) (WE W) (tCons (tVar 0) (tCons (tC (.int 3)) tNil)))) tNil))) (gName 5)) tNext)
    (C8.tCut (tIfS (tTest (tOp (rIn Z.K false) (tVar 4) (tTup (tCons (tC (.int 4)) (tCons (tC (.int 5)) tNil))))) (tAsg (tCallS (sp_Ltake Z) (WE W) (tCons (tVar 0) (tCons (tVar 2) tNil))) (gName 5)) tNext)
    (C8.tCut (tIfS (tTest (tOp (rEqU Z.K) (tVar 4) (tC (.int 6)))) (tAsg (tCallS (sp_Ltake Z) (WE W) (tCons (tVar 0) (tCons (tCB (rLen Z.K) (tCons (tVar 3) tNil)) tNil))) (gName 5)) tNext)
    (C8.tCut (tIfS (tTest (tOp (rEqU Z.K) (tVar 4) (tC (.int 10)))) (tAsg (tOp (rAddU Z.K) (tC (.int 8)) (tCallS (sp_Ltake Z) (WE W) (tCons (tVar 0) (tCons (tC (.int 12)) tNil)))) (gName 5)) tNext)
    (C8.tCut (tIfS (tTest (tOp (rEqU Z.K) (tVar 4) (tC (.int 11)))) (tAsg (tOp (rIx Z.K) (tLst (tCons (tC (.int 2)) (tCons (tC (.int 3)) (tCons (tOp (rAddU Z.K) (tC (.int 2)) (tCallS (sp_Ltake Z) (WE W) (tCons (tVar 0) (tCons (tC (.int 11)) tNil)))) tNil)))) (tCallS (sp_Ltake Z) (WE W) (tCons (tVar 0) (tCons (tC (.int 3)) tNil)))) (gName 5)) tNext)
    (tSeq (tIfS (tAnd (tTest (tOp (rI0 fun i j => .bl (decide (i < j))) (tVar 1) (tCallS (sp_Lneeds Z) (WE W) (tCons (tVar 4) (tCons (tVar 5) (tCons (tVar 3) tNil)))))) (tTest (tOp (rI0 fun i j => .bl (decide (j < i))) (tCallS (sp_Ltake Z) (WE W) (tCons (tVar 0) (tCons (tC (.int 9)) tNil))) (tC (.int 0))))) (tRet (tTup (tCons (tC (.int 0)) (tCons (tCallS (sp_Lnumber Z) (WE W) (tCons (tVar 0) tNil)) tNil)))) tNext)
    (tRet (tTup (tCons (tVar 4) (tCons (tVar 5) tNil)))))))))))))
def t_Lheight (Z : Adr) (W : WX) : TS := (tSeq (tIfS (tTest (tOp (rIn Z.K false) (tVar 0) (tTup (tCons (tC (.int 4)) (tCons (tC (.int 7)) (tCons (tC (.int 8)) tNil)))))) (tRet (tC (.int 0))) tNext)
    (tSeq (tAsg (tCB rMax2 (tCons (tC (.int 0)) (tCons (tOp (rI0 fun i j => .int (i - j)) (tVar 3) (tCallS (sp_Lneeds Z) (WE W) (tCons (tVar 0) (tCons (tVar 1) (tCons (tVar 2) tNil))))) tNil))) (gName 4))
    (tRet (tOp (rAddU Z.K) (tVar 4) (tCB rInt1 (tCons (tOp (rIn Z.K false) (tVar 0) (tTup (tCons (tC (.int 0)) (tCons (tC (.int 1)) (tCons (tC (.int 2)) (tCons (tC (.int 6)) (tCons (tC (.int 10)) tNil))))))) tNil))))))
def t_Lcode (Z : Adr) (W : WX) : TS := (tSeq (tAsg (tOp (rAddU Z.K) (tC (.int 1)) (tCallS (sp_Ltake Z) (WE W) (tCons (tVar 0) (tCons (tC (.int 24)) tNil)))) (gName 1))
    (tSeq (tAsg (tLst tNil) (gName 2))
    (tSeq (tFor (iRng1 (tCons (tOp (rIx Z.K) (tLst (tCons (tC (.int 1)) (tCons (tC (.int 2)) (tCons (tC (.int 3)) (tCons (tOp (rAddU Z.K) (tC (.int 1)) (tCallS (sp_Ltake Z) (WE W) (tCons (tVar 0) (tCons (tC (.int 16)) tNil)))) tNil))))) (tCallS (sp_Ltake Z) (WE W) (tCons (tVar 0) (tCons (tC (.int 4)) tNil)))) tNil)) (gName 3) (tSeq (tAsg (tOp rMul (tCallS (sp_Ltake Z) (WE W) (tCons (tVar 0) (tCons (tC (.int 5)) tNil))) (tCB rInt1 (tCons (tOp (rI0 fun i j => .bl (decide (j < i))) (tVar 3) (tC (.int 0))) tNil))) (gName 4))
    (tDrop (tBM Z.K "list" rAppend (tVar 2) (tCons (tTup (tCons (tC (.int 0)) (tCons (tVar 4) (tCons (tOp (rAddU Z.K) (tVar 4) (tCallS (sp_Ltake Z) (WE W) (tCons (tVar 0) (tCons (tOp (rIx Z.K) (tLst (tCons (tC (.int 3)) (tCons (tOp (rI0 fun i j => .int (i - j)) (tC (.int 13)) (tVar 4)) tNil))) (tCallS (sp_Ltake Z) (WE W) (tCons (tVar 0) (tCons (tC (.int 2)) tNil)))) tNil)))) tNil)))) tNil)))))
    (tSeq (tAsg (tLst tNil) (gName 5))
    (tSeq (tAsg (tLst tNil) (gName 6))
    (tSeq (tAsg (tC (.int 0)) (gName 7))
    (tSeq (tFor (iRng1 (tCons (tVar 1) tNil)) (gName 3) (C8.tCut (tIfS (tTest (tOp (rEqU Z.K) (tVar 7) (tC (.int 0)))) (tDrop (tBM Z.K "list" rAppend (tVar 6) (tCons (tVar 3) tNil))) tNext)
    (tSeq (tDrop (tBM Z.K "list" rAppend (tVar 5) (tCons (tCallS (sp_Lrow Z) (WE W) (tCons (tVar 0) (tCons (tVar 7) (tCons (tVar 1) (tCons (tVar 2) tNil))))) tNil)))
    (tAsg (tCallS (sp_Lheight Z) (WE W) (tCons (tOp (rIx Z.K) (tOp (rIx Z.K) (tVar 5) (tVar 3)) (tC (.int 0))) (tCons (tOp (rIx Z.K) (tOp (rIx Z.K) (tVar 5) (tVar 3)) (tC (.int 1))) (tCons (tVar 2) (tCons (tVar 7) tNil))))) (gName 7)))))
    (tSeq (tFor (iRng1 (tCons (tCB (rLen Z.K) (tCons (tVar 2) tNil)) tNil)) (gName 3) (tSeq (tAsg (tOp (rIx Z.K) (tVar 6) (tCallS (sp_Ltake Z) (WE W) (tCons (tVar 0) (tCons (tCB (rLen Z.K) (tCons (tVar 6) tNil)) tNil)))) (gName 8))
    (C8.tCut (tIfS (tAnd (tTest (tOp (rEqU Z.K) (tVar 3) (tC (.int 0)))) (tTest (tOp (rI0 fun i j => .bl (decide (j < i))) (tCallS (sp_Ltake Z) (WE W) (tCons (tVar 0) (tCons (tC (.int 4)) tNil))) (tC (.int 0))))) (tAsg (tC (.int 0)) (gName 8)) tNext)
    (tAsg (tTup (tCons (tVar 8) (tCons (tOp (rIx Z.K) (tOp (rIx Z.K) (tVar 2) (tVar 3)) (tC (.int 1))) (tCons (tOp (rIx Z.K) (tOp (rIx Z.K) (tVar 2) (tVar 3)) (tC (.int 2))) tNil)))) (gSub (tVar 2) (tVar 3) rSetL)))))
    (tRet (tTup (tCons (tVar 2) (tCons (tVar 5) tNil))))))))))))
def t_Llist (Z : Adr) (W : WX) : TS := (tSeq (tAsg (tLst (tCons (tCB (rLen Z.K) (tCons (tVar 0) tNil)) tNil)) (gName 2))
    (tSeq (tFor (iList Z.K (tVar 0)) (gName 3) (tAsg (tOp (rAddU Z.K) (tVar 2) (tCB (rListOf Z.K) (tCons (tVar 3) tNil))) (gName 2)))
    (tSeq (tFor (iList Z.K (tVar 1)) (gName 4) (tAsg (tOp (rAddU Z.K) (tVar 2) (tCB (rListOf Z.K) (tCons (tVar 4) tNil))) (gName 2)))
    (tRet (tVar 2)))))
def t_Ltuples (Z : Adr) (W : WX) : TS := (tSeq (tIfS (tNot (tB (tCB (rIsi2 Z.K) (tCons (tVar 0) (tCons (tC (.ty "list")) tNil))))) (tRet (tC (.bl false))) tNext)
    (tRet (tOp (rEqU Z.K) (tCB (rLen Z.K) (tCons (tLc (iList Z.K (tVar 0)) (gName 3) (tOr (tNot (tB (tCB (rIsi2 Z.K) (tCons (tVar 3) (tCons (tC (.ty "tuple")) tNil))))) (tTest (tOp (rNeU Z.K) (tCB (rLen Z.K) (tCons (tVar 3) tNil)) (tVar 1)))) (tVar 3) [2, 3]) tNil)) (tC (.int 0)))))
def t_law (Z : Adr) (W : WX) : TS := (tSeq (tAsg (tCallS (sp_Lpen Z) (WE W) (tCons (tVar 0) tNil)) (gName 1))
    (tSeq (tAsg (tCallS (sp_Lcode Z) (WE W) (tCons (tVar 1) tNil)) (gUn Z.K 2 (gCons (gName 2) (gCons (gName 3) gNil))))
    (tSeq (tAsg (tCallS (sp_Llist Z) (WE W) (tCons (tVar 2) (tCons (tVar 3) tNil))) (gName 4))
    (tSeq (tAsg (tLst (tCons (tCB (rListOf Z.K) (tCons (tVar 2) tNil)) (tCons (tCB (rListOf Z.K) (tCons (tVar 3) tNil)) tNil))) (gName 5))
    (tSeq (tAsg (tCallS (sp_Ltake Z) (WE W) (tCons (tVar 1) (tCons (tC (.int 4)) tNil))) (gName 6))
    (C8.tCut (tIfS (tTest (tOp (rI0 fun i j => .bl (decide (j < i))) (tVar 6) (tC (.int 1)))) (tAsg (tLst (tCons (tCB (rTupOf Z.K) (tCons (tVar 2) tNil)) (tCons (tCB (rTupOf Z.K) (tCons (tVar 3) tNil)) tNil))) (gName 5)) tNext)
    (C8.tCut (tIfS (tTest (tOp (rEqU Z.K) (tOp rMod (tVar 6) (tC (.int 2))) (tC (.int 1)))) (tAsg (tLst (tCons (tLc (iUn Z.K (tOp (rIx Z.K) (tVar 5) (tC (.int 0)))) (gName 12) tYes (tCB (rListOf Z.K) (tCons (tVar 12) tNil)) [11, 12]) (tCons (tCB (rTupOf Z.K) (tCons (tLc (iUn Z.K (tOp (rIx Z.K) (tVar 5) (tC (.int 1)))) (gName 13) tYes (tCB (rListOf Z.K) (tCons (tVar 13) tNil)) [11, 13]) tNil)) tNil))) (gName 5)) tNext)
    (tSeq (tFor (iRng1 (tCons (tC (.int 2)) tNil)) (gName 7) (tSeq (tAsg (tCallS (sp_code_of Z) (WE W) (tCons (tOp (rIx Z.K) (tVar 5) (tC (.int 0))) (tCons (tOp (rIx Z.K) (tVar 5) (tC (.int 1))) tNil))) (gName 8))
    (tSeq (tIfS (tOr (tNot (tB (tCB (rIsi2 Z.K) (tCons (tVar 8) (tCons (tC (.ty "list")) tNil))))) (tOr (tTest (tOp (rNeU Z.K) (tVar 8) (tVar 4))) (tTest (tOp rNotU (tCallS (sp_is_code Z) (WE W) (tCons (tVar 8) tNil)) (tC (.bl true)))))) (tRet (tC (.bl false))) tNext)
    (tSeq (tAsg (tCallS (sp_heads_of Z) (WE W) (tCons (tVar 8) tNil)) (gName 9))
    (tSeq (tAsg (tCallS (sp_rows_of Z) (WE W) (tCons (tVar 8) tNil)) (gName 10))
    (tSeq (tIfS (tOr (tNot (tB (tCallS (sp_Ltuples Z) (WE W) (tCons (tVar 9) (tCons (tC (.int 3)) tNil))))) (tNot (tB (tCallS (sp_Ltuples Z) (WE W) (tCons (tVar 10) (tCons (tC (.int 2)) tNil)))))) (tRet (tC (.bl false))) tNext)
    (tSeq (tIfS (tOr (tTest (tOp (rNeU Z.K) (tVar 9) (tVar 2))) (tOr (tTest (tOp (rNeU Z.K) (tVar 10) (tVar 3))) (tTest (tOp (rNeU Z.K) (tVar 8) (tVar 4))))) (tRet (tC (.bl false))) tNext)
    (tSeq (tDrop (tBM0 Z.K "list" rClear (tVar 9)))
    (tSeq (tDrop (tBM Z.K "list" rAppend (tVar 10) (tCons (tTup (tCons (tC (.int 0)) (tCons (tC (.int 0)) tNil))) tNil)))
    (tSeq (tIfS (tOr (tTest (tOp (rNeU Z.K) (tCallS (sp_heads_of Z) (WE W) (tCons (tVar 8) tNil)) (tVar 2))) (tTest (tOp (rNeU Z.K) (tCallS (sp_rows_of Z) (WE W) (tCons (tVar 8) tNil)) (tVar 3)))) (tRet (tC (.bl false))) tNext)
    (tDrop (tBM Z.K "list" rAppend (tVar 8) (tCons (tC (.int 0)) tNil)))))))))))))
    (tRet (tOp rIsU (tCallS (sp_is_code Z) (WE W) (tCons (tOp (rAddU Z.K) (tVar 4) (tLst (tCons (tC (.int 7)) tNil))) tNil)) (tC (.bl false))))))))))))
end My
local macro_rules | `(tactic| walk_at "own") => `(tactic| fail)
/-! ### the steps, tried in turn -/
local macro_rules | `(tactic| walk_at "hp") => `(tactic| first
  | with_reducible assumption
  | with_reducible exact upd_same
  | ((with_reducible refine' Z.up_new ?zn ?zq); (case zn => with_reducible assumption); case zq => walk_at "hp")
  | ((with_reducible refine' Z.up_far ?zn ?zq); (case zn => walk_at "ne"); case zq => walk_at "hp")
  | ((with_reducible refine' Z.sm_rd ?zn ?zq); (case zn => with_reducible assumption); case zq => walk_at "hp")
  | ((with_reducible refine' Z.But.rd ?zn ?zm ?zq); (case zn => with_reducible assumption); (case zm => walk_at "ne"); case zq => walk_at "hp"))
local macro_rules | `(tactic| walk_at "ne") => `(tactic| first
  | with_reducible assumption
  | ((with_reducible refine' Ne.symm ?_); with_reducible assumption)
  | ((with_reducible refine' L2.ne_of_none ?zn ?zm); (case zn => with_reducible assumption); case zm => with_reducible assumption)
  | ((with_reducible refine' Ne.symm (L2.ne_of_none ?zn ?zm)); (case zn => with_reducible assumption); case zm => with_reducible assumption))
local macro_rules | `(tactic| walk_at "sq") => `(tactic| first
  | with_reducible assumption
  | ((with_reducible refine' L2.SqL.of ?zq); case zq => walk_at "hp")
  | ((with_reducible refine' L2.SqT.of ?zq); case zq => walk_at "hp")
  | ((with_reducible refine' L2.Same.seq ?zn ?zq); (case zn => with_reducible assumption); case zq => walk_at "sq")
  | ((with_reducible refine' Z.same_sqT ?zn ?zq); (case zn => with_reducible assumption); case zq => walk_at "sq")
  | ((with_reducible refine' Z.But.sqL ?zn ?zm ?zq); (case zn => with_reducible assumption); (case zm => walk_at "ne"); case zq => walk_at "sq")
  | ((with_reducible refine' Z.But.sqT ?zn ?zm ?zq); (case zn => with_reducible assumption); (case zm => walk_at "ne"); case zq => walk_at "sq"))
local macro_rules | `(tactic| walk_at "fit") => `(tactic| first
  | (refine Nat.le_of_ble_eq_true ?_; rfl) | omega)
local macro_rules | `(tactic| walk_at "s") => `(tactic| first
  | with_reducible refine Z.s_seq ?_
  | with_reducible refine Z.s_set ?_
  | ((with_reducible refine' Z.s_var ?zh ?_); case zh => exact rfl)
  | with_reducible refine Z.s_c ?_
  | with_reducible refine Z.s_op ?_
  | with_reducible refine Z.s_cons ?_
  | with_reducible refine Z.s_nil ?_
  | with_reducible refine Z.s_cb ?_
  | with_reducible refine Z.s_callS ?_
  | with_reducible refine Z.s_rI0 ?_
  | with_reducible refine Z.s_add_i ?_
  | with_reducible refine Z.s_test ?_
  | with_reducible refine Z.s_zB ?_
  | with_reducible refine Z.s_if ?_
  | with_reducible refine Z.s_ret ?_
  | with_reducible refine Z.s_next ?_
  | with_reducible refine Z.s_drop ?_
  | with_reducible refine Z.s_eq_i ?_
  | with_reducible refine Z.s_ne_i ?_
  | with_reducible refine Z.s_eq_s ?_
  | with_reducible refine Z.s_ne_s ?_
  | with_reducible refine Z.s_and ?_
  | with_reducible refine Z.s_or ?_
  | with_reducible refine Z.s_not ?_
  | with_reducible refine Z.s_chain ?_
  | with_reducible refine Z.s_B ?_
  | with_reducible refine Z.s_tup ?_
  | with_reducible refine Z.s_lst ?_
  | ((with_reducible refine' Z.s_ztup ?zh ?_); case zh => exact rfl)
  | ((with_reducible refine' Z.s_zlst ?zh ?_); case zh => exact rfl)
  | with_reducible refine Z.s_un ?_
  | with_reducible refine Z.s_rU ?_
  | with_reducible refine Z.s_p18 ?_
  | with_reducible refine Z.s_min2 ?_
  | with_reducible refine Z.s_max2 ?_
  | with_reducible refine Z.s_abs ?_
  | with_reducible refine Z.s_int1 ?_
  | with_reducible refine Z.s_int1b ?_
  | with_reducible refine Z.s_bm ?_
  | with_reducible refine Z.s_bm0 ?_
  | with_reducible refine Z.s_fld ?_
  | with_reducible refine Z.s_dget ?_
  | with_reducible refine Z.s_din ?_
  | with_reducible refine Z.s_dnotin ?_
  | with_reducible refine Z.s_dnew ?_
  | with_reducible refine Z.s_dput ?_
  | with_reducible refine Z.s_disp ?_
  | with_reducible refine Z.s_asg ?_
  | with_reducible refine Z.s_gname ?_
  | with_reducible refine Z.s_gsub ?_
  | with_reducible refine Z.s_gcons ?_
  | with_reducible refine Z.s_gnil ?_
  | with_reducible refine Z.s_for ?_
  | with_reducible refine Z.s_rng1 ?_
  | with_reducible refine Z.s_rng2 ?_
  | with_reducible refine Z.s_itl ?_
  | with_reducible refine Z.s_itt ?_
  | with_reducible refine Z.s_isU_n ?_
  | with_reducible refine Z.s_notU_n ?_
  | with_reducible refine Z.s_isU_b ?_
  | with_reducible refine Z.s_notU_b ?_
  | with_reducible refine Z.s_isN_i ?_
  | with_reducible refine Z.s_isN_r ?_
  | with_reducible refine Z.s_isN_s ?_
  | with_reducible refine Z.s_isN_n ?_
  | with_reducible refine Z.s_notN_i ?_
  | with_reducible refine Z.s_notN_r ?_
  | with_reducible refine Z.s_notN_s ?_
  | with_reducible refine Z.s_notN_n ?_
  | with_reducible refine Z.s_slL ?_
  | with_reducible refine Z.s_nopart ?_
  | with_reducible refine Z.s_part ?_
  | with_reducible refine Z.s_zpart ?_
  | ((with_reducible refine' Z.s_cutL ?zh ?_); case zh => walk_at "sq")
  | with_reducible refine Z.s_ift ?_
  | with_reducible refine Z.s_iff ?_
  | with_reducible refine Z.s_nt ?_
  | with_reducible refine Z.s_nf ?_
  | with_reducible refine Z.s_zbody ?_
  | with_reducible refine Z.s_lc ?_
  | with_reducible refine Z.s_yes ?_
  | ((with_reducible refine Z.s_wipe ?zh ?_); case zh => rfl)
  | ((with_reducible refine' Z.s_zitl ?zh ?_); case zh => walk_at "sq")
  | ((with_reducible refine' Z.s_zitt ?zh ?_); case zh => walk_at "sq")
  | with_reducible refine Z.s_ifE ?_
  | with_reducible refine Z.s_andV ?_
  | with_reducible refine Z.s_orV ?_
  | with_reducible refine Z.s_notV ?_
  | with_reducible refine Z.s_retN ?_
  | with_reducible refine Z.s_break ?_
  | with_reducible refine Z.s_cont ?_
  | ((with_reducible refine Z.s_zrng1 ?zh ?_); case zh => omega)
  | ((with_reducible refine Z.s_zrng2 ?zh ?_); case zh => omega)
  | ((with_reducible refine Z.s_modp ?zh ?_); case zh => omega)
  | ((with_reducible refine Z.s_fdvp ?zh ?_); case zh => omega)
  | ((with_reducible refine Z.s_mulp ?zh ?_); case zh => omega)
  | ((with_reducible refine' Z.s_len_l ?zh ?_); case zh => walk_at "sq")
  | ((with_reducible refine' Z.s_len_t ?zh ?_); case zh => walk_at "sq")
  | ((with_reducible refine' Z.s_zTyL ?zh ?_); case zh => walk_at "hp")
  | with_reducible refine Z.s_meth ?_
  | with_reducible refine Z.s_make ?_
  | with_reducible refine Z.s_fldset ?_
  | with_reducible refine Z.s_rev ?_
  | ((with_reducible refine' Z.s_zrev ?zh ?_); case zh => walk_at "sq")
  | with_reducible refine Z.isi_int ?_
  | with_reducible refine Z.isi_int_bool ?_
  | ((with_reducible refine' Z.isi_list ?zh ?_); case zh => walk_at "sq")
  | ((with_reducible refine' Z.isi_tup ?zh ?_); case zh => walk_at "sq")
  | walk_at "own"
  | with_reducible refine Z.s_zTyS ?_
  | ((with_reducible refine' Z.s_zTyL' ?zh ?_); case zh => walk_at "sq")
  | ((with_reducible refine' Z.s_listof_l ?zh ?_); case zh => walk_at "sq")
  | ((with_reducible refine' Z.s_listof_t ?zh ?_); case zh => walk_at "sq")
  | ((with_reducible refine' Z.s_tupof_l ?zh ?_); case zh => walk_at "sq")
  | ((with_reducible refine' Z.s_tupof_t ?zh ?_); case zh => walk_at "sq")
  | ((with_reducible refine' Z.s_gun_t ?zh ?zl ?_); (case zh => walk_at "sq"); case zl => rfl)
  | ((with_reducible refine' Z.s_gun_l ?zh ?zl ?_); (case zh => walk_at "sq"); case zl => rfl))
local macro_rules | `(tactic| walk_at "zz") => `(tactic| repeat (walk_at "s"))
/-! ### pens and frames -/
local macro_rules | `(tactic| walk_at "st") => `(tactic| first
  | with_reducible assumption
  | ((with_reducible refine' Z.Pn.new ?zs ?zn); (case zn => with_reducible assumption); case zs => walk_at "st")
  | ((with_reducible refine' Z.Pn.same ?zs ?zn); (case zn => with_reducible assumption); case zs => walk_at "st")
  | ((with_reducible refine' Z.Pn.butN ?zs ?zb ?zn); (case zb => with_reducible assumption); (case zn => walk_at "np"); case zs => walk_at "st"))
local macro_rules | `(tactic| walk_at "np") => `(tactic| first
  | with_reducible assumption
  | ((with_reducible refine' Ne.symm ?_); with_reducible assumption)
  | ((with_reducible refine' Z.Pn.ne ?zs ?zn); (case zn => with_reducible assumption); case zs => walk_at "st")
  | ((with_reducible refine' Ne.symm (Z.Pn.ne ?zs ?zn)); (case zn => with_reducible assumption); case zs => walk_at "st")
  | ((with_reducible refine' L2.ne_of_none ?zn ?zm); (case zm => with_reducible assumption); case zn => walk_at "hp")
  | ((with_reducible refine' Ne.symm (L2.ne_of_none ?zn ?zm)); (case zm => with_reducible assumption); case zn => walk_at "hp"))
local macro_rules | `(tactic| walk_at "no") => `(tactic| first
  | with_reducible assumption
  | ((with_reducible refine' L2.Same.free ?zs ?zn); (case zn => with_reducible assumption); case zs => walk_at "sm")
  | ((with_reducible refine' Z.But.none ?zs ?zm ?zn); (case zn => with_reducible assumption); (case zs => walk_at "bt"); case zm => walk_at "np"))
local macro_rules | `(tactic| walk_at "sm") => `(tactic| first
  | with_reducible assumption
  | ((with_reducible refine' Z.same_new ?zn); (case zn => with_reducible assumption))
  | ((with_reducible refine' L2.Same.trans ?zs (Z.same_new ?zn)); (case zn => with_reducible assumption); case zs => walk_at "sm")
  | ((with_reducible refine' Z.same_own ?zs ?zb ?zn); (case zb => with_reducible assumption); (case zs => walk_at "sm"); case zn => walk_at "no")
  | ((with_reducible refine' L2.Same.trans ?zs ?zn); (case zn => with_reducible assumption); case zs => walk_at "sm")
  | with_reducible exact L2.Same.refl _)
local macro_rules | `(tactic| walk_at "bt") => `(tactic| first
  | with_reducible assumption
  | ((with_reducible refine' Z.But.new ?zs ?zn); (case zn => with_reducible assumption); case zs => walk_at "bt")
  | ((with_reducible refine' Z.But.trans ?zs ?zn); (case zn => with_reducible assumption); case zs => walk_at "bt")
  | ((with_reducible refine' Z.But.trans ?zs (Z.But.of ?zn)); (case zn => with_reducible assumption); case zs => walk_at "bt")
  | ((with_reducible refine' Z.But.own ?zs ?zb ?zn); (case zb => with_reducible assumption); (case zs => walk_at "bt"); case zn => walk_at "no")
  | with_reducible exact Z.But.refl _ _)
local macro_rules | `(tactic| walk_at "tk") => `(tactic| first
  | ((with_reducible refine' My.c_take ?zm ?zs ?_); (case zm => omega); (case zs => walk_at "st")))
namespace My
open PySem L2 Z
theorem rd_is_whole {Z : Adr} (T : Top Z) {a0 : V} {H : Hp} {Q : VK} {E : XK} (h : q_is_whole Z a0 H Q E) : t_is_whole Z (fun cls d _ H => E cls d H) ⟨fun _ H' => Q .non H', Q, fun _ _ => False, fun _ _ => False⟩ [some a0] H := by
  unfold t_is_whole
  obtain ⟨i, rfl, q⟩ := h
  walk_at "zz"
  exact q

theorem rd_are_wholes {Z : Adr} (T : Top Z) {a0 a1 : V} {H : Hp} {Q : VK} {E : XK} (h : q_are_wholes Z a0 a1 H Q E) : t_are_wholes Z (fun cls d _ H => E cls d H) ⟨fun _ H' => Q .non H', Q, fun _ _ => False, fun _ _ => False⟩ [some a0, some a1, none, none] H := by
  unfold t_are_wholes
  obtain ⟨xs, m, ⟨p, rfl, hs⟩, rfl, hl, q⟩ := h
  have big : 1000000 ≤ sizeLine := by decide
  walk_at "zz"
  intro t ht
  have S0 : Same H (upd H t (.tup [.ty "list", .ty "tuple"])) := same_new ht
  have hs1 := seqU_same S0 hs
  refine isi_ltU upd_same hs1 ?_
  walk_at "zz"
  refine s_lenU hs1 ?_
  walk_at "zz"
  rw [List.length_map]
  refine s_ifn (fun c => ?_) (fun c => ?_)
  · walk_at "zz"
    have := q _ S0
    rw [decide_eq_false c] at this
    exact this
  · walk_at "zz"
    refine s_iunV hs1 rfl fun k hk => ?_
    generalize upd H t (.tup [.ty "list", .ty "tuple"]) = H1 at *
    refine lc_un (xs.map V.int) (fun D j H' => Same H1 H' ∧ H' D = some (.lst ((List.replicate j true).map V.bl))) (fun D hD => ⟨same_new hD, upd_same⟩) (fun D j H' hD hj h => hk.same h.1) ?_ ?_
    · rintro D j x H2 hD hx ⟨S2, h2⟩
      rw [List.getElem?_map] at hx
      obtain ⟨i, hi, rfl⟩ := Option.map_eq_some_iff.mp hx
      have hj := (List.getElem?_eq_some_iff.mp hi).1
      walk_at "zz"
      refine cl_is_whole ⟨i, rfl, ?_⟩
      refine c_acc h2 (by rw [List.length_map, List.length_replicate]; omega) fun H3 B3 h3 => ⟨same_own S2 B3 hD, ?_⟩
      rw [h3, List.replicate_succ', List.map_append]; rfl
    · rintro D H2 hD ⟨S2, h2⟩
      refine s_all (SqL.of h2) ?_
      have := q _ (S0.trans S2)
      rw [decide_eq_true c] at this
      rw [show ((List.replicate (xs.map V.int).length true).all id) = true by simp]
      exact this

theorem rd_fits_op {Z : Adr} (T : Top Z) {a0 a1 a2 a3 : V} {H : Hp} {Q : VK} {E : XK} (h : q_fits_op Z a0 a1 a2 a3 H Q E) : t_fits_op Z (fun cls d _ H => E cls d H) ⟨fun _ H' => Q .non H', Q, fun _ _ => False, fun _ _ => False⟩ [some a0, some a1, some a2, some a3] H := by
  unfold t_fits_op
  obtain ⟨op, n, fs, rs, rfl, rfl, rfl, rfl, q1, q2⟩ := h
  walk_at "zz"
  refine s_ifd (fun c => ?_) (fun c => ?_)
  · walk_at "zz"
    exact q1 (.inl c) _ (Same.refl _)
  walk_at "zz"
  intro t1 ht1
  refine s_in_t (SqT.of upd_same) rfl rfl ?_
  have S1 := same_new (o := .tup [V.int 1, .int 2]) ht1
  walk_at "zz"
  rw [show inV (.int op) [V.int 1, .int 2] = decide (op = 1 ∨ op = 2) from (inV_ints op [1, 2]).trans (by simp)]
  generalize upd H t1 (.tup [V.int 1, .int 2]) = H1 at *
  refine s_ifd (fun c1 => ?_) (fun c1 => ?_)
  · walk_at "zz"
    refine s_ifd (fun c2 => ?_) (fun c2 => ?_)
    · walk_at "zz"
      by_cases c3 : n < 12
      · rw [decide_eq_true c3]; exact q1 (.inr (.inl ⟨c1, c2, c3⟩)) _ S1
      · rw [decide_eq_false c3]; exact q2 (by unfold OpOK; omega) _ S1
    · exact q2 (by unfold OpOK; omega) _ S1
  walk_at "zz"
  intro t2 ht2
  refine s_in_t (SqT.of upd_same) rfl rfl ?_
  have S2 := S1.trans (same_new (o := .tup [V.int 4, .int 5]) ht2)
  walk_at "zz"
  rw [show inV (.int op) [V.int 4, .int 5] = decide (op = 4 ∨ op = 5) from (inV_ints op [4, 5]).trans (by simp)]
  generalize upd H1 t2 (.tup [V.int 4, .int 5]) = H2 at *
  refine s_ifd (fun c4 => ?_) (fun c4 => ?_)
  · walk_at "zz"
    refine s_ifd (fun c2 => ?_) (fun c2 => ?_)
    · walk_at "zz"
      by_cases c3 : n < rs
      · rw [decide_eq_true c3]; exact q1 (.inr (.inr (.inl ⟨c4, c2, c3⟩))) _ S2
      · rw [decide_eq_false c3]; exact q2 (by unfold OpOK; omega) _ S2
    · exact q2 (by unfold OpOK; omega) _ S2
  walk_at "zz"
  refine s_ifd (fun c6 => ?_) (fun c6 => ?_)
  · walk_at "zz"
    refine s_ifd (fun c2 => ?_) (fun c2 => ?_)
    · walk_at "zz"
      by_cases c3 : n < fs
      · rw [decide_eq_true c3]; exact q1 (.inr (.inr (.inr (.inl ⟨c6, c2, c3⟩)))) _ S2
      · rw [decide_eq_false c3]; exact q2 (by unfold OpOK; omega) _ S2
    · exact q2 (by unfold OpOK; omega) _ S2
  walk_at "zz"
  intro t3 ht3
  refine s_in_t (SqT.of upd_same) rfl rfl ?_
  have S3 := S2.trans (same_new (o := .tup [V.int 3, .int 7, .int 8, .int 9]) ht3)
  walk_at "zz"
  rw [show inV (.int op) [V.int 3, .int 7, .int 8, .int 9] = decide (op = 3 ∨ op = 7 ∨ op = 8 ∨ op = 9) from (inV_ints op [3, 7, 8, 9]).trans (by simp)]
  generalize upd H2 t3 (.tup [V.int 3, .int 7, .int 8, .int 9]) = H3 at *
  refine s_ifd (fun c7 => ?_) (fun c7 => ?_)
  · walk_at "zz"
    by_cases c3 : n = 0
    · rw [decide_eq_true c3]; exact q1 (.inr (.inr (.inr (.inr (.inl ⟨c7, c3⟩))))) _ S3
    · rw [decide_eq_false c3]; exact q2 (by unfold OpOK; omega) _ S3
  walk_at "zz"
  refine s_ifd (fun c10 => ?_) (fun c10 => ?_)
  · walk_at "zz"
    refine s_ifd (fun c2 => ?_) (fun c2 => ?_)
    · walk_at "zz"
      by_cases c3 : n ≤ 19
      · rw [decide_eq_true c3]; exact q1 (.inr (.inr (.inr (.inr (.inr (.inl ⟨c10, c2, c3⟩)))))) _ S3
      · rw [decide_eq_false c3]; exact q2 (by unfold OpOK; omega) _ S3
    · exact q2 (by unfold OpOK; omega) _ S3
  walk_at "zz"
  refine s_ifd (fun c11 => ?_) (fun c11 => ?_)
  · walk_at "zz"
    refine s_ifd (fun c2 => ?_) (fun c2 => ?_)
    · walk_at "zz"
      by_cases c3 : n ≤ 12
      · rw [decide_eq_true c3]; exact q1 (.inr (.inr (.inr (.inr (.inr (.inr ⟨c11, c2, c3⟩)))))) _ S3
      · rw [decide_eq_false c3]; exact q2 (by unfold OpOK; omega) _ S3
    · exact q2 (by unfold OpOK; omega) _ S3
  · exact q2 (by unfold OpOK; omega) _ S3

theorem rd_fits_head {Z : Adr} (T : Top Z) {a0 a1 a2 : V} {H : Hp} {Q : VK} {E : XK} (h : q_fits_head Z a0 a1 a2 H Q E) : t_fits_head Z (fun cls d _ H => E cls d H) ⟨fun _ H' => Q .non H', Q, fun _ _ => False, fun _ _ => False⟩ [some a0, some a1, some a2, none, none, none] H := by
  unfold t_fits_head
  obtain ⟨x, i, m, ⟨t, rfl, hs⟩, hx, rfl, rfl, q1, q2⟩ := h
  obtain ⟨s, p, b, rfl⟩ : ∃ s p b, x = [s, p, b] := by
    match x, hx with
    | [s, p, b], _ => exact ⟨s, p, b, rfl⟩
  have no : ¬ (0 ≤ s ∧ s < m ∧ 0 ≤ p ∧ p ≤ (if 0 < i then 4 else 0) ∧ p ≤ b ∧ b ≤ 12) → Q (.bl false) H := fun z => q2 (by
    rintro ⟨s', p', b', e, c⟩
    cases e
    exact z c)
  walk_at "zz"
  refine s_gunU (xs := [.int s, .int p, .int b]) hs rfl ?_
  walk_at "zz"
  refine s_ifd (fun c1 => ?_) (fun c1 => ?_)
  rotate_left
  · walk_at "zz"
    exact no (by omega)
  walk_at "zz"
  refine s_ifn (fun c2 => ?_) (fun c2 => ?_)
  · walk_at "zz"
    exact no (by omega)
  walk_at "zz"
  refine s_ifd (D := 0 ≤ p) (fun c3 => ?_) (fun c3 => ?_)
  rotate_left
  · walk_at "zz"
    exact no (by omega)
  walk_at "zz"
  rw [show (4 : Int) * (if decide ((0 : Int) < (i : Int)) = true then 1 else 0) = if 0 < i then 4 else 0 by
    by_cases z : 0 < i
    · rw [if_pos z, if_pos (by simpa using z)]; rfl
    · rw [if_neg z, if_neg (by simpa using z)]; rfl]
  by_cases c4 : p ≤ (if 0 < i then 4 else 0)
  rotate_left
  · rw [decide_eq_false c4]
    walk_at "zz"
    exact no (fun z => c4 z.2.2.2.1)
  rw [decide_eq_true c4]
  walk_at "zz"
  refine s_ifd (fun c5 => ?_) (fun c5 => ?_)
  rotate_left
  · exact no (by omega)
  walk_at "zz"
  by_cases c6 : b ≤ 12
  · rw [decide_eq_true c6]
    exact q1 ⟨s, p, b, rfl, c1, c2, c3, c4, c5, c6⟩
  · rw [decide_eq_false c6]
    exact no (by omega)

theorem rd_make_code {Z : Adr} (T : Top Z) {a0 a1 : V} {H : Hp} {Q : VK} {E : XK} (h : q_make_code Z a0 a1 H Q E) : t_make_code Z (fun cls d _ H => E cls d H) ⟨fun _ H' => Q .non H', Q, fun _ _ => False, fun _ _ => False⟩ [some a0, some a1, none, none, none] H := by
  unfold t_make_code
  obtain ⟨hs, rs, ⟨lh, vh, rfl, eh, rh⟩, ⟨lr, vr, rfl, er, rr⟩, h3, r2, hh, hr, q1, q2⟩ := h
  have lenh := rh.len
  have lenr := rr.len
  walk_at "zz"
  refine s_lenU eh ?_
  walk_at "zz"
  rw [lenh]
  refine s_ifd (fun c1 => ?_) (fun c1 => ?_)
  rotate_left
  · walk_at "zz"
    exact q2 (fun C => by have := C.h1; omega) _ (Same.refl _)
  walk_at "zz"
  by_cases c2 : (hs.length : Int) ≤ 16
  rotate_left
  · rw [decide_eq_false c2]
    walk_at "zz"
    exact q2 (fun C => by have := C.h16; omega) _ (Same.refl _)
  rw [decide_eq_true c2]
  walk_at "zz"
  refine s_lenU er ?_
  walk_at "zz"
  rw [lenr]
  refine s_ifd (fun c3 => ?_) (fun c3 => ?_)
  · walk_at "zz"
    exact q2 (fun C => by have := C.r1; omega) _ (Same.refl _)
  walk_at "zz"
  refine s_lenU eh ?_
  walk_at "zz"
  rw [lenh]
  refine loop_range (fun i σ' H' => H = H' ∧ (∀ j h, j < i → hs[j]? = some h → HeadOK h j rs.length) ∧ ∃ x, σ' = [some (.ref lh), some (.ref lr), x, none, none]) ⟨rfl, fun j h hj => by omega, _, rfl⟩ ?_ ?_
  · rintro i σ' H' hi ⟨rfl, hd, x, rfl⟩
    have hi' : i < hs.length := by omega
    obtain ⟨v, ev, t, rfl, ht⟩ := rh.get (List.getElem?_eq_getElem hi')
    walk_at "zz"
    rw [show (0 : Int) + (i : Int) = i by omega]
    refine s_ixU eh (atI_nat ev) ?_
    walk_at "zz"
    refine s_lenU er ?_
    walk_at "zz"
    rw [lenr]
    refine cl_fits_head ⟨hs[i], i, rs.length, ⟨t, rfl, ht⟩, h3 _ (List.getElem_mem _), rfl, rfl, fun ok => ?_, fun no => ?_⟩
    · walk_at "zz"
      refine ⟨rfl, fun j h hj e => ?_, _, rfl⟩
      by_cases c : j = i
      · subst c
        rw [List.getElem?_eq_getElem hi'] at e
        cases e; exact ok
      · exact hd j h (by omega) e
    · walk_at "zz"
      exact q2 (fun C => no (C.hd i _ (List.getElem?_eq_getElem hi'))) _ (Same.refl _)
  · rintro σ' H' ⟨rfl, hd, x, rfl⟩
    have hd' : ∀ j h, hs[j]? = some h → HeadOK h j rs.length := fun j h e => hd j h (by have := (List.getElem?_eq_some_iff.mp e).1; omega) e
    walk_at "zz"
    refine s_iunV er rfl fun k hk => ?_
    refine loop_un vr (fun i σ' H' => Same H H' ∧ (∀ j r, j < i → rs[j]? = some r → RowOK r hs.length rs.length) ∧ ∃ x3 x4, σ' = [some (.ref lh), some (.ref lr), x, x3, x4]) ⟨Same.refl _, fun j h hj => by omega, _, _, rfl⟩ (fun i σ' H' hi h => hk.same h.1) ?_ ?_
    · rintro i v σ' H2 hv ⟨S2, hr2, x3, x4, rfl⟩
      obtain ⟨r, e, t, rfl, ht⟩ := rr.getv hv
      obtain ⟨op, n, rfl⟩ : ∃ op n, r = [op, n] := by
        have := r2 r (List.mem_of_getElem? e)
        match r, this with
        | [op, n], _ => exact ⟨op, n, rfl⟩
      have eh2 := seqU_same S2 eh
      have er2 := seqU_same S2 er
      walk_at "zz"
      refine s_gunU (xs := [.int op, .int n]) (seqU_same S2 ht) rfl ?_
      walk_at "zz"
      refine s_lenU eh2 ?_
      walk_at "zz"
      refine s_lenU er2 ?_
      walk_at "zz"
      rw [lenh, lenr]
      refine cl_fits_op ⟨op, n, hs.length, rs.length, rfl, rfl, rfl, rfl, fun ok H3 S3 => ?_, fun no H3 S3 => ?_⟩
      · walk_at "zz"
        refine ⟨S2.trans S3, fun j h hj e2 => ?_, _, _, rfl⟩
        by_cases c : j = i
        · subst c
          rw [e] at e2
          cases e2; exact ⟨op, n, rfl, ok⟩
        · exact hr2 j h (by omega) e2
      · walk_at "zz"
        refine q2 (fun C => ?_) _ (S2.trans S3)
        obtain ⟨a, b, e2, ok⟩ := C.rw _ (List.mem_of_getElem? e)
        cases e2
        exact no ok
    · rintro σ' H2 ⟨S2, hr2, x3, x4, rfl⟩
      walk_at "zz"
      refine q1 ⟨by omega, by omega, by omega, hd', fun r hr => ?_⟩ _ S2
      obtain ⟨j, hj⟩ := List.mem_iff_getElem?.mp hr
      exact hr2 j r (by have := (List.getElem?_eq_some_iff.mp hj).1; rw [lenr]; exact this) hj

theorem rd_cut_up {Z : Adr} (T : Top Z) {a0 a1 : V} {H : Hp} {Q : VK} {E : XK} (h : q_cut_up Z a0 a1 H Q E) : t_cut_up Z (fun cls d _ H => E cls d H) ⟨fun _ H' => Q .non H', Q, fun _ _ => False, fun _ _ => False⟩ [some a0, some a1, none, none] H := by
  unfold t_cut_up
  obtain ⟨l, xs, n, rfl, rfl, hn, hn2, hx, hl, q⟩ := h
  have big : 1000000 ≤ sizeLine := by decide
  walk_at "zz"
  intro lf hlf
  have hl1 := (same_new (o := .lst []) hlf).seq hl
  walk_at "zz"
  rw [List.length_map]
  walk_at "zz"
  have hd : xs.length / n ≤ xs.length := Nat.div_le_self _ _
  have hM2 := Nat.div_mul_le_self xs.length n
  obtain ⟨M, hM⟩ : ∃ M, M = xs.length / n := ⟨_, rfl⟩
  rw [show ((xs.length : Int) / (n : Int)) = ((xs.length / n : Nat) : Int) from (Int.natCast_ediv _ _).symm]
  rw [← hM] at hd hM2 ⊢
  refine s_zrng1 (by omega) ?_
  rw [Int.toNat_natCast]
  refine loop_range (fun i σ' H' => Same H H' ∧ (∃ vs, H' lf = some (.lst vs) ∧ TupsAt H' ((cutUp n xs).take i) vs) ∧ ∃ x, σ' = [some (.ref l), some (.int n), some (.ref lf), x]) ⟨same_new hlf, ⟨[], upd_same, Row.nil⟩, _, rfl⟩ ?_ ?_
  · rintro i σ' H2 hi ⟨S2, ⟨vs, h2, r2⟩, x, rfl⟩
    have hl2 := S2.seq hl
    have e3 : (i + 1) * n ≤ xs.length := Nat.le_trans (Nat.mul_le_mul_right n (by omega)) hM2
    have e4 : i * n ≤ 100000 := by rw [Nat.add_mul] at e3; omega
    rw [show (0 : Int) + (i : Int) = i by omega]
    walk_at "zz"
    rw [show (i : Int) * (n : Int) = ((i * n : Nat) : Int) by simp]
    rw [show ((i * n : Nat) : Int) + (n : Int) = (((i + 1) * n : Nat) : Int) by rw [Nat.add_mul, Nat.one_mul]; simp]
    intro ls hls
    walk_at "zz"
    refine s_tupof_l (SqL.of upd_same) fun lt hlt => ?_
    have S3 := (same_new (o := .lst (cutV (xs.map V.int) (some ((i * n : Nat) : Int)) (some (((i + 1) * n : Nat) : Int)))) hls).trans (same_new (o := .tup (cutV (xs.map V.int) (some ((i * n : Nat) : Int)) (some (((i + 1) * n : Nat) : Int)))) hlt)
    have ec : cutV (xs.map V.int) (some ((i * n : Nat) : Int)) (some (((i + 1) * n : Nat) : Int)) = ((xs.drop (i * n)).take n).map V.int := by
      rw [cut_nat (by rw [Nat.add_mul]; omega) (by rw [List.length_map]; exact e3), List.map_take, List.map_drop]
      congr 1
      rw [Nat.add_mul]; omega
    have ht : upd (upd H2 ls (.lst (cutV (xs.map V.int) (some ((i * n : Nat) : Int)) (some (((i + 1) * n : Nat) : Int))))) lt (.tup (cutV (xs.map V.int) (some ((i * n : Nat) : Int)) (some (((i + 1) * n : Nat) : Int)))) lt = some (.tup (((xs.drop (i * n)).take n).map V.int)) := by rw [upd_same, ec]
    have hlf3 := S3 _ _ h2
    have r3 := r2.mono (TupS.of S3)
    generalize upd (upd H2 ls (.lst (cutV (xs.map V.int) (some ((i * n : Nat) : Int)) (some (((i + 1) * n : Nat) : Int))))) lt (.tup (cutV (xs.map V.int) (some ((i * n : Nat) : Int)) (some (((i + 1) * n : Nat) : Int)))) = H3 at *
    have lv := r2.len
    rw [List.length_take, cutUp_len] at lv
    walk_at "zz"
    refine c_append hlf3 (by omega) fun H4 B4 h4 => ?_
    walk_at "zz"
    have T4 := TupS.butL B4 hlf3
    refine ⟨same_own (S2.trans S3) B4 hlf, ⟨_, h4, ?_⟩, _, rfl⟩
    have hi2 : i < (cutUp n xs).length := by rw [cutUp_len, ← hM]; exact hi
    rw [List.take_succ_eq_append_getElem hi2]
    refine (r3.mono T4).app ⟨lt, rfl, T4 _ _ (by rw [ht, (cutUp_get (List.getElem?_eq_getElem hi2)).2])⟩
  · rintro σ' H2 ⟨S2, ⟨vs, h2, r2⟩, x, rfl⟩
    walk_at "zz"
    rw [hM, ← cutUp_len, List.take_length] at r2
    exact q _ _ _ S2 hlf h2 r2

theorem rd_parted_code {Z : Adr} (T : Top Z) {a0 : V} {H : Hp} {Q : VK} {E : XK} (h : q_parted_code Z a0 H Q E) : t_parted_code Z (fun cls d _ H => E cls d H) ⟨fun _ H' => Q .non H', Q, fun _ _ => False, fun _ _ => False⟩ [some a0, none, none, none] H := by
  unfold t_parted_code
  obtain ⟨l, xs, rfl, hl, hx, q1, q2⟩ := h
  have big : 1000000 ≤ sizeLine := by decide
  walk_at "zz"
  rw [List.length_map]
  refine s_ifd (fun c0 => ?_) (fun c0 => ?_)
  · walk_at "zz"
    refine s_raiseN ?_
    exact q2 (fun hs rs I => by
      have e := I.2
      have : xs.length = 0 := by omega
      rw [e] at this
      simp [codeL] at this) _ (Same.refl _)
  walk_at "zz"
  rw [List.length_map]
  refine cl_are_wholes ⟨xs, xs.length, ⟨l, rfl, .inl hl⟩, rfl, hx, fun H1 S1 => ?_⟩
  rw [decide_eq_true rfl]
  walk_at "zz"
  have hl1 := S1.seq hl
  obtain ⟨x0, r0, ex⟩ : ∃ x r, xs = x :: r := by
    cases xs with
    | nil => exact absurd rfl c0
    | cons x r => exact ⟨x, r, rfl⟩
  refine s_ix_l (v := .int x0) hl1 (atI_nat (j := 0) (by rw [ex]; rfl)) ?_
  have no : (∀ m : Nat, ¬ PartOK xs m) → ∀ hs rs, ¬ IsCode xs hs rs := fun z hs rs I => z _ I.part.1
  have hd0 : xs[0]? = some x0 := by rw [ex]; rfl
  walk_at "zz"
  refine s_ifd (fun c1 => ?_) (fun c1 => ?_)
  rotate_left
  · walk_at "zz"
    refine s_raiseN ?_
    refine q2 (no fun m P => ?_) _ S1
    have := hd0.symm.trans P.1
    injection this with this
    have := P.2.1
    omega
  walk_at "zz"
  refine s_ifn (fun c2 => ?_) (fun c2 => ?_)
  · walk_at "zz"
    refine s_raiseN ?_
    refine q2 (no fun m P => ?_) _ S1
    have := hd0.symm.trans P.1
    injection this with this
    have := P.2.2.1
    omega
  obtain ⟨m, rfl⟩ : ∃ m : Nat, x0 = (m : Int) := ⟨x0.toNat, by omega⟩
  have only : ∀ m', PartOK xs m' → m' = m := fun m' P => by
    have := hd0.symm.trans P.1
    injection this with this
    omega
  walk_at "zz"
  rw [List.length_map]
  refine s_ifd (fun c3 => ?_) (fun c3 => ?_)
  · walk_at "zz"
    refine s_raiseN ?_
    refine q2 (no fun m' P => ?_) _ S1
    cases only m' P
    have := P.2.2.2.1
    omega
  walk_at "zz"
  rw [List.length_map]
  walk_at "zz"
  refine s_ifd (fun c4 => ?_) (fun c4 => ?_)
  · walk_at "zz"
    refine s_raiseN ?_
    refine q2 (no fun m' P => ?_) _ S1
    cases only m' P
    have := P.2.2.2.2
    omega
  have P : PartOK xs m := ⟨hd0, by omega, by omega, by omega, by omega⟩
  walk_at "zz"
  intro la hla
  have S2 := S1.trans (same_new (o := .lst (cutV (xs.map V.int) (some 1) (some (3 * (m : Int) + 1)))) hla)
  have ea : cutV (xs.map V.int) (some 1) (some (3 * (m : Int) + 1)) = ((xs.drop 1).take (3 * m)).map V.int := by
    rw [show (3 * (m : Int) + 1) = ((3 * m + 1 : Nat) : Int) by omega, show (1 : Int) = ((1 : Nat) : Int) from rfl, cut_nat (by omega) (by rw [List.length_map]; omega), List.map_take, List.map_drop]
    congr 1
  refine cl_cut_up ⟨la, (xs.drop 1).take (3 * m), 3, rfl, rfl, by omega, by omega, by rw [List.length_take, List.length_drop]; omega, SqL.of (by rw [upd_same, ea]), fun lh vh H3 S3 hlh0 hlh th => ?_⟩
  have S03 := S2.trans S3
  have hl3 := S03.seq hl
  walk_at "zz"
  intro lb hlb
  have S4 := S03.trans (same_new (o := .lst (cutV (xs.map V.int) (some (3 * (m : Int) + 1)) none)) hlb)
  have eb : cutV (xs.map V.int) (some (3 * (m : Int) + 1)) none = (xs.drop (3 * m + 1)).map V.int := by
    rw [show (3 * (m : Int) + 1) = ((3 * m + 1 : Nat) : Int) by omega]
    exact cut_dropI _ _
  refine cl_cut_up ⟨lb, xs.drop (3 * m + 1), 2, rfl, rfl, by omega, by omega, by rw [List.length_drop]; omega, SqL.of (by rw [upd_same, eb]), fun lr vr H5 S5 hlr0 hlr tr => ?_⟩
  have S45 := (same_new (o := .lst (cutV (xs.map V.int) (some (3 * (m : Int) + 1)) none)) hlb).trans S5
  have S05 := S03.trans S45
  have hlh5 := S45 _ _ hlh
  have th5 := th.mono (TupS.of S45)
  have lh1 : (cutH xs m).length = m := by unfold cutH; rw [cutUp_len, List.length_take, List.length_drop]; omega
  have lr1 : (cutR xs m).length ≤ 100000 := by unfold cutR; rw [cutUp_len, List.length_drop]; omega
  have hne : lh ≠ lr := ne_of_none (same_new hlb _ _ hlh) hlr0
  walk_at "zz"
  refine cl_make_code ⟨cutH xs m, cutR xs m, ⟨lh, vh, rfl, .inl (SqL.of hlh5), th5.imp fun _ _ _ z => z.seq⟩, ⟨lr, vr, rfl, .inl (SqL.of hlr), tr.imp fun _ _ _ z => z.seq⟩, fun _ z => cutUp_all z, fun _ z => cutUp_all z, by omega, lr1, fun C H6 S6 => ?_, fun C H6 S6 => ?_⟩
  · walk_at "zz"
    intro t ht
    have I := part_code P C
    have S7 := S6.trans (same_new (o := .tup [.ref lh, .ref lr]) ht)
    refine q1 _ _ I t lh lr _ (S05.trans S7) upd_same hne ⟨S2.free hlh0, vh, S7 _ _ hlh5, th5.mono (TupS.of S7)⟩ ⟨S4.free hlr0, vr, S7 _ _ hlr, tr.mono (TupS.of S7)⟩
  · walk_at "zz"
    refine s_raiseN ?_
    exact q2 (code_no P C) _ (S05.trans S6)

theorem rd_is_code {Z : Adr} (T : Top Z) {a0 : V} {H : Hp} {Q : VK} {E : XK} (h : q_is_code Z a0 H Q E) : t_is_code Z (fun cls d _ H => E cls d H) ⟨fun _ H' => Q .non H', Q, fun _ _ => False, fun _ _ => False⟩ [some a0, none] H := by
  unfold t_is_code
  obtain ⟨l, xs, rfl, hl, hx, q1, q2⟩ := h
  walk_at "zz"
  refine s_tryOnly ?_
  walk_at "zz"
  refine cl_parted_code ⟨l, xs, rfl, hl, hx, fun hs rs I t lh lr H' S ht hne Th Tr => ?_, fun no H' S => ?_⟩
  · walk_at "zz"
    exact q1 hs rs I _ S
  · refine ⟨true, T.ex_NoCode_NoCode, fun _ a ha => ?_, fun z => by cases z⟩
    walk_at "zz"
    exact q2 no _ S

theorem rd_heads_of {Z : Adr} (T : Top Z) {a0 : V} {H : Hp} {Q : VK} {E : XK} (h : q_heads_of Z a0 H Q E) : t_heads_of Z (fun cls d _ H => E cls d H) ⟨fun _ H' => Q .non H', Q, fun _ _ => False, fun _ _ => False⟩ [some a0] H := by
  unfold t_heads_of
  obtain ⟨l, xs, hs, rs, rfl, hl, hx, I, q⟩ := h
  walk_at "zz"
  refine cl_parted_code ⟨l, xs, rfl, hl, hx, fun hs2 rs2 I2 t lh lr H' S ht hne Th Tr => ?_, fun no => absurd I (no _ _)⟩
  obtain ⟨_, e1, e2⟩ := I.part
  obtain ⟨P2, e3, e4⟩ := I2.part
  rw [← part_uniq I.part.1 P2, e1] at e3
  subst e3
  refine s_ix_t (SqT.of ht) (v := .ref lh) rfl ?_
  exact q lh H' S Th

theorem rd_rows_of {Z : Adr} (T : Top Z) {a0 : V} {H : Hp} {Q : VK} {E : XK} (h : q_rows_of Z a0 H Q E) : t_rows_of Z (fun cls d _ H => E cls d H) ⟨fun _ H' => Q .non H', Q, fun _ _ => False, fun _ _ => False⟩ [some a0] H := by
  unfold t_rows_of
  obtain ⟨l, xs, hs, rs, rfl, hl, hx, I, q⟩ := h
  walk_at "zz"
  refine cl_parted_code ⟨l, xs, rfl, hl, hx, fun hs2 rs2 I2 t lh lr H' S ht hne Th Tr => ?_, fun no => absurd I (no _ _)⟩
  obtain ⟨_, e1, e2⟩ := I.part
  obtain ⟨P2, e3, e4⟩ := I2.part
  rw [← part_uniq I.part.1 P2, e2] at e4
  subst e4
  refine s_ix_t (SqT.of ht) (v := .ref lr) rfl ?_
  exact q lr H' S Tr

theorem rd_code_of {Z : Adr} (T : Top Z) {a0 a1 : V} {H : Hp} {Q : VK} {E : XK} (h : q_code_of Z a0 a1 H Q E) : t_code_of Z (fun cls d _ H => E cls d H) ⟨fun _ H' => Q .non H', Q, fun _ _ => False, fun _ _ => False⟩ [some a0, some a1, none, none, none, none] H := by
  unfold t_code_of
  obtain ⟨hs, rs, ⟨lh, vh, rfl, eh, rh⟩, ⟨lr, vr, rfl, er, rr⟩, C, hrl, q⟩ := h
  obtain ⟨kh, eh⟩ := SqB.of eh
  obtain ⟨kr, er⟩ := SqB.of er
  have big : 1000000 ≤ sizeLine := by decide
  have lenh := rh.len
  have lenr := rr.len
  have lh16 := C.h16
  walk_at "zz"
  intro t1 ht1
  have S1 := same_new (o := .tup [.ty "list", .ty "tuple"]) ht1
  refine isi_ltU upd_same (eh.same S1).or ?_
  walk_at "zz"
  intro t2 ht2
  have S2 := S1.trans (same_new (o := .tup [.ty "list", .ty "tuple"]) ht2)
  refine isi_ltU upd_same (er.same S2).or ?_
  generalize upd (upd H t1 (.tup [.ty "list", .ty "tuple"])) t2 (.tup [.ty "list", .ty "tuple"]) = H2 at *
  walk_at "zz"
  refine s_iunB (eh.same S2) rfl ?_
  refine lc_un vh (fun D j H' => Same H2 H' ∧ H' D = some (.lst ((List.replicate j true).map V.bl))) (fun D hD => ⟨same_new hD, upd_same⟩) (fun D j H' hD hj h => eh.same (S2.trans h.1)) ?_ ?_
  · rintro D j v H3 hD hv ⟨S3, h3⟩
    obtain ⟨x, hx, t, rfl, ht⟩ := rh.getv hv
    have hj := (List.getElem?_eq_some_iff.mp hv).1
    walk_at "zz"
    refine cl_are_wholes ⟨x, 3, ⟨t, rfl, seqU_same (S2.trans S3) ht⟩, rfl, by rw [C.h3 x (List.mem_of_getElem? hx)]; omega, fun H4 S4 => ?_⟩
    rw [C.h3 x (List.mem_of_getElem? hx)]
    refine c_acc (S4 _ _ h3) (by rw [List.length_map, List.length_replicate]; omega) fun H5 B5 h5 => ⟨same_own (S3.trans S4) B5 hD, ?_⟩
    rw [h5, List.replicate_succ', List.map_append]; rfl
  rintro D H3 hD ⟨S3, h3⟩
  walk_at "zz"
  refine s_all (SqL.of h3) ?_
  rw [show (List.replicate vh.length true).all id = true by simp]
  have S03 := S2.trans S3
  walk_at "zz"
  refine s_iunB (er.same S03) rfl ?_
  refine lc_un vr (fun D j H' => Same H3 H' ∧ H' D = some (.lst ((List.replicate j true).map V.bl))) (fun D hD => ⟨same_new hD, upd_same⟩) (fun D j H' hD hj h => er.same (S03.trans h.1)) ?_ ?_
  · rintro D2 j v H4 hD2 hv ⟨S4, h4⟩
    obtain ⟨x, hx, t, rfl, ht⟩ := rr.getv hv
    have hj := (List.getElem?_eq_some_iff.mp hv).1
    walk_at "zz"
    refine cl_are_wholes ⟨x, 2, ⟨t, rfl, seqU_same (S03.trans S4) ht⟩, rfl, by rw [C.r2 x (List.mem_of_getElem? hx)]; omega, fun H5 S5 => ?_⟩
    rw [C.r2 x (List.mem_of_getElem? hx)]
    refine c_acc (S5 _ _ h4) (by rw [List.length_map, List.length_replicate]; omega) fun H6 B6 h6 => ⟨same_own (S4.trans S5) B6 hD2, ?_⟩
    rw [h6, List.replicate_succ', List.map_append]; rfl
  rintro D2 H4 hD2 ⟨S4, h4⟩
  walk_at "zz"
  refine s_all (SqL.of h4) ?_
  rw [show (List.replicate vr.length true).all id = true by simp]
  have S04 := S03.trans S4
  walk_at "zz"
  refine cl_make_code ⟨hs, rs, ListI.same S04 ⟨lh, vh, rfl, eh.or, rh⟩, ListI.same S04 ⟨lr, vr, rfl, er.or, rr⟩, C.h3, C.r2, by omega, by omega, fun _ H5 S5 => ?_, fun z => absurd C z⟩
  have S05 := S04.trans S5
  walk_at "zz"
  refine s_lenU (eh.same S05).or ?_
  walk_at "zz"
  intro lf hlf
  walk_at "zz"
  have S06 := S05.trans (same_new (o := .lst [.int vh.length]) hlf)
  have hlf0 := S05.free hlf
  refine s_iunB (eh.same S06) rfl ?_
  have sum3 : ∀ i, (hs.take i).flatten.length ≤ 100 := fun i => by
    rw [flat_sum fun x hx => C.h3 x (List.mem_of_mem_take hx), List.length_take]
    omega
  have sum2 : ∀ i, (rs.take i).flatten.length ≤ 100000 := fun i => by
    rw [flat_sum fun x hx => C.r2 x (List.mem_of_mem_take hx), List.length_take]
    omega
  refine loop_un vh (fun i σ' H' => Same H H' ∧ H' lf = some (.lst (((hs.length : Int) :: (hs.take i).flatten).map V.int)) ∧ ∃ x2 x5, σ' = [some (.ref lh), some (.ref lr), x2, none, some (.ref lf), x5]) ⟨S06, by rw [upd_same, lenh]; rfl, _, _, rfl⟩ (fun i σ' H' hi h => eh.same h.1) ?_ ?_
  · rintro i v σ' H7 hv ⟨S7, h7, x2, x5, rfl⟩
    obtain ⟨x, hx, t, rfl, ht⟩ := rh.getv hv
    have hx3 := C.h3 x (List.mem_of_getElem? hx)
    have hi := List.getElem?_eq_some_iff.mp hx
    walk_at "zz"
    refine s_listU (seqU_same S7 ht) fun l hl => ?_
    walk_at "zz"
    refine c_extend (zs := x.map V.int) (up_new hl h7) upd_same (by have := sum3 i; simp only [List.length_map, List.length_cons]; omega) fun H8 B8 h8 => ?_
    walk_at "zz"
    refine ⟨same_own (S7.trans (same_new hl)) B8 hlf0, ?_, _, _, rfl⟩
    rw [h8, List.take_succ_eq_append_getElem hi.1, hi.2, List.flatten_append]
    simp
  rintro σ' H7 ⟨S7, h7, x2, x5, rfl⟩
  rw [show vh.length = hs.length from lenh, List.take_length] at h7
  walk_at "zz"
  refine s_iunB (er.same S7) rfl ?_
  refine loop_un vr (fun i σ' H' => Same H H' ∧ H' lf = some (.lst (((hs.length : Int) :: (hs.flatten ++ (rs.take i).flatten)).map V.int)) ∧ ∃ x2 x3 x5, σ' = [some (.ref lh), some (.ref lr), x2, x3, some (.ref lf), x5]) ⟨S7, by rw [h7]; simp, _, _, _, rfl⟩ (fun i σ' H' hi h => er.same h.1) ?_ ?_
  · rintro i v σ' H8 hv ⟨S8, h8, x2, x3, x5, rfl⟩
    obtain ⟨x, hx, t, rfl, ht⟩ := rr.getv hv
    have hx3 := C.r2 x (List.mem_of_getElem? hx)
    have hi := List.getElem?_eq_some_iff.mp hx
    walk_at "zz"
    refine s_listU (seqU_same S8 ht) fun l hl => ?_
    walk_at "zz"
    refine c_extend (zs := x.map V.int) (up_new hl h8) upd_same (by have := sum2 i; have := sum3 hs.length; rw [List.take_length] at this; simp only [List.length_map, List.length_cons, List.length_append]; omega) fun H9 B9 h9 => ?_
    walk_at "zz"
    refine ⟨same_own (S8.trans (same_new hl)) B9 hlf0, ?_, _, _, _, rfl⟩
    rw [h9, List.take_succ_eq_append_getElem hi.1, hi.2, List.flatten_append]
    simp
  rintro σ' H8 ⟨S8, h8, x2, x3, x5, rfl⟩
  rw [show vr.length = rs.length from lenr, List.take_length] at h8
  walk_at "zz"
  exact q lf H8 S8 hlf0 h8

theorem rd_Lpen {Z : Adr} (T : Top Z) {a0 : V} {H : Hp} {Q : VK} {E : XK} (h : q_Lpen Z a0 H Q E) : t_Lpen Z (fun cls d _ H => E cls d H) ⟨fun _ H' => Q .non H', Q, fun _ _ => False, fun _ _ => False⟩ [some a0] H := by
  unfold t_Lpen
  obtain ⟨sa, ns, rfl, hS, q⟩ := h
  walk_at "zz"
  intro p hp
  exact q p _ (same_new hp) hp ⟨sa, ns, [0, 0, 0], hS.same (same_new hp), rfl, by simp, upd_same⟩

theorem rd_Lmixed {Z : Adr} (T : Top Z) {a0 a1 : V} {H : Hp} {Q : VK} {E : XK} (h : q_Lmixed Z a0 a1 H Q E) : t_Lmixed Z (fun cls d _ H => E cls d H) ⟨fun _ H' => Q .non H', Q, fun _ _ => False, fun _ _ => False⟩ [some a0, some a1, none] H := by
  unfold t_Lmixed
  obtain ⟨c, k, rfl, rfl, q⟩ := h
  walk_at "zz"
  repeat (refine s_mulp (by omega) ?_; walk_at "zz")
  exact q _

theorem rd_Ltake {Z : Adr} (T : Top Z) {a0 a1 : V} {H : Hp} {Q : VK} {E : XK} (h : q_Ltake Z a0 a1 H Q E) : t_Ltake Z (fun cls d _ H => E cls d H) ⟨fun _ H' => Q .non H', Q, fun _ _ => False, fun _ _ => False⟩ [some a0, some a1, none, none] H := by
  unfold t_Ltake
  obtain ⟨p, m, rfl, rfl, hm, hm2, ⟨sa, ns, ks, hS, hk3, hk0, hp⟩, q⟩ := h
  obtain ⟨k, l, u, rfl⟩ : ∃ k l u, ks = [k, l, u] := by
    match ks, hk3 with
    | [k, l, u], _ => exact ⟨k, l, u, rfl⟩
  have hk : 0 ≤ k := hk0 k (by simp)
  have hl : 0 ≤ l := hk0 l (by simp)
  have hu : 0 ≤ u := hk0 u (by simp)
  clear hk0 hk3
  have hsq := hS.sq
  have pn : ∀ {H' : Hp} {k l u : Int}, But p H H' → 0 ≤ k → 0 ≤ l → 0 ≤ u → H' p = some (.lst [.ref sa, .int k, .int l, .int u]) → Pn Z.K PN H' p := fun B h1 h2 h3 e => ⟨sa, ns, [_, _, _], hS.but B, rfl, by simp; exact ⟨h1, h2, h3⟩, e⟩
  walk_at "zz"
  refine s_cut (fun σ' H' => ∃ (k' l' u' : Int) (x2 x3 : Option V), But p H H' ∧ H' p = some (.lst [.ref sa, .int k', .int l', .int u']) ∧ 0 ≤ k' ∧ 0 ≤ l' ∧ 0 ≤ u' ∧ σ' = [some (.ref p), some (.int m), x2, x3]) ?_ ?_
  · walk_at "zz"
    refine s_ix_l (SqL.of hp) (v := .int l) rfl ?_
    walk_at "zz"
    refine s_ifd (fun c => ?_) (fun c => ?_)
    · walk_at "zz"
      refine s_cut (fun σ' H' => H' = H ∧ ∃ c : Int, σ' = [some (.ref p), some (.int m), some (.int c), none]) ?_ ?_
      · walk_at "zz"
        refine s_ix_l (SqL.of hp) (v := .ref sa) rfl ?_
        walk_at "zz"
        rw [List.length_map]
        refine s_ifd (fun c => ?_) (fun c => ?_)
        · walk_at "zz"
          refine s_ix_l (SqL.of hp) (v := .ref sa) rfl ?_
          walk_at "zz"
          refine s_ix_l (SqL.of hp) (v := .int k) rfl ?_
          walk_at "zz"
          refine s_ix_l (SqL.of hp) (v := .ref sa) rfl ?_
          walk_at "zz"
          rw [List.length_map]
          refine s_modp c ?_
          walk_at "zz"
          obtain ⟨w, hw, ew⟩ := at_ints ns (i := k % ns.length) (Int.emod_nonneg _ (by omega)) (Int.emod_lt_of_pos _ c)
          refine s_ix_l hsq ew ?_
          walk_at "zz"
          exact ⟨rfl, _, rfl⟩
        · walk_at "zz"
          exact ⟨rfl, _, rfl⟩
      · rintro σ' H' ⟨rfl, c, rfl⟩
        walk_at "zz"
        refine s_ix_l (SqL.of hp) (v := .int k) rfl ?_
        walk_at "zz"
        refine c_setL 1 [.ref sa, .int (k + 1), .int l, .int u] hp rfl rfl fun H1 B1 hp1 => ?_
        have hS1 := hS.but B1
        have hsq1 := hS1.sq
        walk_at "zz"
        have mixed : ∀ {b1 c1 : L2.St → Hp → Prop} {N1 : L2.St → Hp → Prop} {σ1 : L2.St}, σ1 = [some (.ref p), some (.int m), some (.int c), none] → (tSeq (tAsg (tOp (rAddU Z.K) (tOp (rIx Z.K) (tVar 0) (tC (.int 3))) (tC (.int 1))) (gSub (tVar 0) (tC (.int 3)) rSetL))
            (tRet (tOp rMod (tCallS (sp_Lmixed Z) (WE (fun cls d _ H => E cls d H)) (tCons (tVar 2) (tCons (tOp (rIx Z.K) (tVar 0) (tC (.int 3))) tNil))) (tVar 1)))) ⟨N1, Q, b1, c1⟩ σ1 H1 := by
          rintro b1 c1 N1 σ1 rfl
          walk_at "zz"
          refine s_ix_l (SqL.of hp1) (v := .int u) rfl ?_
          walk_at "zz"
          refine c_setL 3 [.ref sa, .int (k + 1), .int l, .int (u + 1)] hp1 rfl rfl fun H2 B2 hp2 => ?_
          walk_at "zz"
          refine s_ix_l (SqL.of hp2) (v := .int (u + 1)) rfl ?_
          walk_at "zz"
          refine cl_Lmixed ⟨c, u + 1, rfl, rfl, fun z => ?_⟩
          walk_at "zz"
          exact q _ _ (Int.emod_nonneg _ (by omega)) (Int.emod_lt_of_pos _ hm) (pn (B1.trans B2) (by omega) hl (by omega) hp2) (B1.trans B2)
        refine s_ifd (fun c1 => ?_) (fun c1 => ?_)
        · walk_at "s"
          walk_at "s"
          exact mixed rfl
        · walk_at "zz"
          refine s_ix_l (SqL.of hp1) (v := .int (k + 1)) rfl ?_
          walk_at "zz"
          refine s_ix_l (SqL.of hp1) (v := .ref sa) rfl ?_
          walk_at "zz"
          rw [List.length_map]
          refine s_ifd (fun c2 => ?_) (fun c2 => ?_)
          · exact mixed rfl
          · walk_at "zz"
            refine c_setL 2 [.ref sa, .int (k + 1), .int c, .int u] hp1 rfl rfl fun H2 B2 hp2 => ?_
            walk_at "zz"
            exact ⟨k + 1, c, u, _, _, B1.trans B2, hp2, by omega, by omega, hu, rfl⟩
    · walk_at "zz"
      exact ⟨k, l, u, _, _, But.refl _ _, hp, hk, hl, hu, rfl⟩
  · rintro σ' H' ⟨k', l', u', x2, x3, B, hp', hk', hl', hu', rfl⟩
    walk_at "zz"
    refine s_ix_l (SqL.of hp') (v := .int l') rfl ?_
    walk_at "zz"
    refine s_ix_l (SqL.of hp') (v := .int l') rfl ?_
    walk_at "zz"
    refine s_fdvq ⟨hm, hm2⟩ ?_
    walk_at "zz"
    refine c_setL 2 [.ref sa, .int k', .int (l' / m), .int u'] hp' rfl rfl fun H2 B2 hp2 => ?_
    walk_at "zz"
    exact q _ _ (Int.emod_nonneg _ (by omega)) (Int.emod_lt_of_pos _ hm) (pn (B.trans B2) hk' (Int.ediv_nonneg hl' (by omega)) hu' hp2) (B.trans B2)

theorem rd_Lnumber {Z : Adr} (T : Top Z) {a0 : V} {H : Hp} {Q : VK} {E : XK} (h : q_Lnumber Z a0 H Q E) : t_Lnumber Z (fun cls d _ H => E cls d H) ⟨fun _ H' => Q .non H', Q, fun _ _ => False, fun _ _ => False⟩ [some a0] H := by
  unfold t_Lnumber
  obtain ⟨p, rfl, P, q⟩ := h
  walk_at "zz"
  refine c_take (by omega) P fun v H1 v0 v1 P1 B1 => ?_
  walk_at "zz"
  refine s_ifd (fun c => ?_) (fun c => ?_)
  · walk_at "zz"
    intro l hl
    walk_at "zz"
    refine c_take (by omega) (by walk_at "st") fun w H2 w0 w1 P2 B2 => ?_
    walk_at "zz"
    refine s_ixI [10 ^ 50, 0 - 10 ^ 50, 10 ^ 40 - 1, 0 - 7] (SqL.of (B2.rd (P1.ne hl) upd_same)) rfl w0 w1 fun x hx _ => ?_
    have hx' : -10 ^ 60 ≤ x ∧ x ≤ 10 ^ 60 := by simp at hx; omega
    exact q _ _ hx'.1 hx'.2 P2 (by walk_at "bt")
  · walk_at "zz"
    refine c_take (by omega) P1 fun w H2 w0 w1 P2 B2 => ?_
    walk_at "zz"
    exact q _ _ (by omega) (by omega) P2 (B1.trans B2)

theorem rd_Lneeds {Z : Adr} (T : Top Z) {a0 a1 a2 : V} {H : Hp} {Q : VK} {E : XK} (h : q_Lneeds Z a0 a1 a2 H Q E) : t_Lneeds Z (fun cls d _ H => E cls d H) ⟨fun _ H' => Q .non H', Q, fun _ _ => False, fun _ _ => False⟩ [some a0, some a1, some a2] H := by
  unfold t_Lneeds
  obtain ⟨op, n, lh, hs, vs, m, rfl, rfl, rfl, hlh, th, pre, ok, q⟩ := h
  walk_at "zz"
  refine s_ifd (fun c => ?_) (fun c => ?_)
  · have hn : 0 ≤ n ∧ n.toNat < hs.length := by unfold OpOK at ok; omega
    obtain ⟨v, ev, t, rfl, ht⟩ := th.get (List.getElem?_eq_getElem hn.2)
    obtain ⟨s, p, b, e, _⟩ := pre _ _ (List.getElem?_eq_getElem hn.2)
    rw [e] at ht
    walk_at "zz"
    refine s_ix_l (SqL.of hlh) (at_ofN (j := n.toNat) (by omega) ev) ?_
    walk_at "zz"
    refine s_ix_t (SqT.of ht) (v := .int p) rfl ?_
    exact q _ _ (Same.refl _)
  walk_at "zz"
  refine s_ifd (fun c2 => ?_) (fun c2 => ?_)
  · walk_at "zz"
    intro l hl
    walk_at "zz"
    refine s_ixI [2, 2, 2, 2, 2, 2, 2, 2, 2, 3, 1, 0] (SqL.of upd_same) rfl (by unfold OpOK at ok; omega) (by show _ < (12 : Int); unfold OpOK at ok; omega) fun w _ _ => ?_
    exact q _ _ (same_new hl)
  · walk_at "zz"
    intro l hl
    walk_at "zz"
    refine s_ixI [0, 0, 1, 1, 0, 1, 0, 1, 1, 0, 0, 1] (SqL.of upd_same) rfl (by unfold OpOK at ok; omega) (by show _ < (12 : Int); unfold OpOK at ok; omega) fun w _ _ => ?_
    exact q _ _ (same_new hl)

theorem rd_Lrow {Z : Adr} (T : Top Z) {a0 a1 a2 a3 : V} {H : Hp} {Q : VK} {E : XK} (h : q_Lrow Z a0 a1 a2 a3 H Q E) : t_Lrow Z (fun cls d _ H => E cls d H) ⟨fun _ H' => Q .non H', Q, fun _ _ => False, fun _ _ => False⟩ [some a0, some a1, some a2, some a3, none, none] H := by
  unfold t_Lrow
  obtain ⟨p, ht, m, lh, hs, vs, rfl, rfl, rfl, rfl, hm, hm2, hne, P, hlh, th, pre, hs0, hs1, q⟩ := h
  have ex : ∀ (H' : Hp), But p H H' → H' lh = some (.lst vs) := fun H' B => B.rd hne hlh
  have lenv : vs.length = hs.length := th.len
  walk_at "zz"
  intro l1 hl1
  walk_at "zz"
  refine c_take (by omega) (by walk_at "st") fun v H1 v0 v1 P1 B1 => ?_
  have hl2 := B1.rd (P.ne hl1) upd_same
  have B01 : But p H H1 := by walk_at "bt"
  walk_at "zz"
  refine s_ixI [0, 0, 0, 1, 1, 2, 3, 4, 5, 6, 6, 7, 8, 9, 10, 10, 10, 11, 0, 10] (SqL.of hl2) rfl v0 v1 fun op hop _ => ?_
  have hop' : 0 ≤ op ∧ op ≤ 11 := by simp at hop; omega
  clear hop hl2 B1 hl1
  walk_at "zz"
  have mid : ∀ {L : List Int} {n x : Int}, (op ∈ L → OpOK op x hs.length m) → (op ∉ L → x = 0) → ¬ op = n → (op ∈ n :: L → OpOK op x hs.length m) ∧ (op ∉ n :: L → x = 0) := fun h1 h2 h3 => by
    constructor
    · intro h; rcases List.mem_cons.mp h with e | e
      · exact absurd e h3
      · exact h1 e
    · intro h; exact h2 fun z => h (List.mem_cons_of_mem _ z)
  refine s_cut (fun σ' H' => ∃ x : Int, But p H H' ∧ Pn Z.K PN H' p ∧ σ' = [some (.ref p), some (.int ht), some (.int m), some (.ref lh), some (.int op), some (.int x)] ∧ (op ∈ [0] → OpOK op x hs.length m) ∧ (op ∉ [0] → x = 0)) ?_ ?_
  · walk_at "zz"
    refine s_ifd (fun c => ?_) (fun c => ?_)
    · walk_at "zz"
      refine cl_Lnumber ⟨p, rfl, P1, fun v H2 _ _ P2 B2 => ?_⟩
      walk_at "zz"
      exact ⟨v, B01.trans B2, P2, rfl, fun _ => .inl c, fun z => absurd (by simpa using c) z⟩
    · walk_at "zz"
      exact ⟨0, B01, P1, rfl, fun z => absurd (by simpa using z) c, fun _ => rfl⟩
  clear P1 B01 v0 v1
  rintro σ' H2 ⟨x, B2, P2, rfl, o1, o2⟩
  walk_at "zz"
  refine s_cut (fun σ' H' => ∃ x : Int, But p H H' ∧ Pn Z.K PN H' p ∧ σ' = [some (.ref p), some (.int ht), some (.int m), some (.ref lh), some (.int op), some (.int x)] ∧ (op ∈ [1, 2, 0] → OpOK op x hs.length m) ∧ (op ∉ [1, 2, 0] → x = 0)) ?_ ?_
  · walk_at "zz"
    intro t1 ht1
    refine s_in_t (SqT.of upd_same) rfl rfl ?_
    rw [show inV (.int op) [V.int 1, .int 2] = decide (op = 1 ∨ op = 2) from (inV_ints op [1, 2]).trans (by simp)]
    have P3 : Pn Z.K PN (upd H2 t1 (.tup [V.int 1, .int 2])) p := by walk_at "st"
    have B3 : But p H (upd H2 t1 (.tup [V.int 1, .int 2])) := by walk_at "bt"
    generalize upd H2 t1 (.tup [V.int 1, .int 2]) = H3 at *
    walk_at "zz"
    refine s_ifd (fun c => ?_) (fun c => ?_)
    · walk_at "zz"
      intro l3 hl3
      walk_at "zz"
      refine c_take (by omega) (by walk_at "st") fun v H4 v0 v1 P4 B4 => ?_
      walk_at "zz"
      refine s_ixI [3, 3, 12] (SqL.of (B4.rd (P3.ne hl3) upd_same)) rfl v0 v1 fun w hw _ => ?_
      have hw' : 0 < w ∧ w ≤ 12 := by simp at hw; omega
      walk_at "zz"
      refine c_take (by omega) P4 fun v5 H5 v50 v51 P5 B5 => ?_
      walk_at "zz"
      exact ⟨v5, (B3.trans ((But.of (same_new hl3)).trans B4)).trans B5, P5, rfl, fun _ => .inr (.inl ⟨c, v50, by omega⟩), fun z => absurd (by simp; omega) z⟩
    · walk_at "zz"
      have a := mid o1 o2 (n := 2) (by omega)
      have a := mid a.1 a.2 (n := 1) (by omega)
      exact ⟨x, B3, P3, rfl, a.1, a.2⟩
  clear B2 P2 o1 o2
  rintro σ' H2 ⟨x, B2, P2, rfl, o1, o2⟩
  walk_at "zz"
  refine s_cut (fun σ' H' => ∃ x : Int, But p H H' ∧ Pn Z.K PN H' p ∧ σ' = [some (.ref p), some (.int ht), some (.int m), some (.ref lh), some (.int op), some (.int x)] ∧ (op ∈ [4, 5, 1, 2, 0] → OpOK op x hs.length m) ∧ (op ∉ [4, 5, 1, 2, 0] → x = 0)) ?_ ?_
  · walk_at "zz"
    intro t1 ht1
    refine s_in_t (SqT.of upd_same) rfl rfl ?_
    rw [show inV (.int op) [V.int 4, .int 5] = decide (op = 4 ∨ op = 5) from (inV_ints op [4, 5]).trans (by simp)]
    have P3 : Pn Z.K PN (upd H2 t1 (.tup [V.int 4, .int 5])) p := by walk_at "st"
    have B3 : But p H (upd H2 t1 (.tup [V.int 4, .int 5])) := by walk_at "bt"
    generalize upd H2 t1 (.tup [V.int 4, .int 5]) = H3 at *
    walk_at "zz"
    refine s_ifd (fun c => ?_) (fun c => ?_)
    · walk_at "zz"
      refine c_take (by omega) P3 fun v5 H5 v50 v51 P5 B5 => ?_
      walk_at "zz"
      exact ⟨v5, B3.trans B5, P5, rfl, fun _ => .inr (.inr (.inl ⟨c, v50, by omega⟩)), fun z => absurd (by simp; omega) z⟩
    · walk_at "zz"
      have a := mid o1 o2 (n := 5) (by omega)
      have a := mid a.1 a.2 (n := 4) (by omega)
      exact ⟨x, B3, P3, rfl, a.1, a.2⟩
  clear B2 P2 o1 o2
  rintro σ' H2 ⟨x, B2, P2, rfl, o1, o2⟩
  walk_at "zz"
  refine s_cut (fun σ' H' => ∃ x : Int, But p H H' ∧ Pn Z.K PN H' p ∧ σ' = [some (.ref p), some (.int ht), some (.int m), some (.ref lh), some (.int op), some (.int x)] ∧ (op ∈ [6, 4, 5, 1, 2, 0] → OpOK op x hs.length m) ∧ (op ∉ [6, 4, 5, 1, 2, 0] → x = 0)) ?_ ?_
  · have hl2 := ex _ B2
    walk_at "zz"
    refine s_ifd (fun c => ?_) (fun c => ?_)
    · walk_at "zz"
      rw [lenv]
      refine c_take (by omega) P2 fun v5 H5 v50 v51 P5 B5 => ?_
      walk_at "zz"
      exact ⟨v5, B2.trans B5, P5, rfl, fun _ => .inr (.inr (.inr (.inl ⟨c, v50, by omega⟩))), fun z => absurd (by simp; omega) z⟩
    · walk_at "zz"
      have a := mid o1 o2 (n := 6) c
      exact ⟨x, B2, P2, rfl, a.1, a.2⟩
  clear B2 P2 o1 o2
  rintro σ' H2 ⟨x, B2, P2, rfl, o1, o2⟩
  walk_at "zz"
  refine s_cut (fun σ' H' => ∃ x : Int, But p H H' ∧ Pn Z.K PN H' p ∧ σ' = [some (.ref p), some (.int ht), some (.int m), some (.ref lh), some (.int op), some (.int x)] ∧ (op ∈ [10, 6, 4, 5, 1, 2, 0] → OpOK op x hs.length m) ∧ (op ∉ [10, 6, 4, 5, 1, 2, 0] → x = 0)) ?_ ?_
  · walk_at "zz"
    refine s_ifd (fun c => ?_) (fun c => ?_)
    · walk_at "zz"
      refine c_take (by omega) P2 fun v5 H5 v50 v51 P5 B5 => ?_
      walk_at "zz"
      exact ⟨8 + v5, B2.trans B5, P5, rfl, fun _ => .inr (.inr (.inr (.inr (.inr (.inl ⟨c, by omega, by omega⟩))))), fun z => absurd (by simp; omega) z⟩
    · walk_at "zz"
      have a := mid o1 o2 (n := 10) c
      exact ⟨x, B2, P2, rfl, a.1, a.2⟩
  clear B2 P2 o1 o2
  rintro σ' H2 ⟨x, B2, P2, rfl, o1, o2⟩
  walk_at "zz"
  refine s_cut (fun σ' H' => ∃ x : Int, But p H H' ∧ Pn Z.K PN H' p ∧ σ' = [some (.ref p), some (.int ht), some (.int m), some (.ref lh), some (.int op), some (.int x)] ∧ OpOK op x hs.length m) ?_ ?_
  · walk_at "zz"
    refine s_ifd (fun c => ?_) (fun c => ?_)
    · walk_at "zz"
      refine c_take (by omega) P2 fun v3 H3 v30 v31 P3 B3 => ?_
      walk_at "zz"
      intro l3 hl3
      walk_at "zz"
      refine c_take (by omega) (by walk_at "st") fun v H4 v0 v1 P4 B4 => ?_
      walk_at "zz"
      refine s_ixI [2, 3, 2 + v3] (SqL.of (B4.rd (P3.ne hl3) upd_same)) rfl v0 v1 fun w hw _ => ?_
      have hw' : 2 ≤ w ∧ w ≤ 12 := by simp at hw; omega
      walk_at "zz"
      exact ⟨w, (B2.trans B3).trans ((But.of (same_new hl3)).trans B4), P4, rfl, .inr (.inr (.inr (.inr (.inr (.inr ⟨c, hw'⟩)))))⟩
    · walk_at "zz"
      refine ⟨x, B2, P2, rfl, ?_⟩
      by_cases z : op ∈ [10, 6, 4, 5, 1, 2, (0 : Int)]
      · exact o1 z
      · have x0 := o2 z
        simp at z
        exact .inr (.inr (.inr (.inr (.inl ⟨by omega, x0⟩))))
  clear B2 P2 o1 o2
  rintro σ' H2 ⟨x, B2, P2, rfl, ok⟩
  have hl2 := ex _ B2
  have th2 := th.mono (P.tups B2)
  walk_at "zz"
  refine cl_Lneeds ⟨op, x, lh, hs, vs, m, rfl, rfl, rfl, hl2, th2, pre, ok, fun i H3 S3 => ?_⟩
  have P3 : Pn Z.K PN H3 p := by walk_at "st"
  have B3 : But p H H3 := by walk_at "bt"
  walk_at "zz"
  have fin : ∀ {H' : Hp} {b0 c0 : L2.St → Hp → Prop}, But p H H' → Pn Z.K PN H' p → tRet (tTup (tCons (tVar 4) (tCons (tVar 5) tNil))) ⟨fun _ H' => Q .non H', Q, b0, c0⟩ [some (.ref p), some (.int ht), some (.int m), some (.ref lh), some (.int op), some (.int x)] H' := fun B P => by
    walk_at "zz"
    intro t ht
    exact q t op x _ (by walk_at "bt") (by walk_at "st") upd_same ok
  refine s_ifd (fun c => ?_) (fun c => ?_)
  · walk_at "zz"
    refine c_take (by omega) P3 fun v4 H4 v40 v41 P4 B4 => ?_
    walk_at "zz"
    refine s_ifd (fun c => ?_) (fun c => ?_)
    · walk_at "zz"
      refine cl_Lnumber ⟨p, rfl, P4, fun v H5 _ _ P5 B5 => ?_⟩
      walk_at "zz"
      intro t ht
      exact q t 0 v _ (by walk_at "bt") (by walk_at "st") upd_same (.inl rfl)
    · refine s_next ?_
      exact fin (by walk_at "bt") P4
  · refine s_iff ?_
    refine s_next ?_
    exact fin (by walk_at "bt") P3

theorem rd_Lheight {Z : Adr} (T : Top Z) {a0 a1 a2 a3 : V} {H : Hp} {Q : VK} {E : XK} (h : q_Lheight Z a0 a1 a2 a3 H Q E) : t_Lheight Z (fun cls d _ H => E cls d H) ⟨fun _ H' => Q .non H', Q, fun _ _ => False, fun _ _ => False⟩ [some a0, some a1, some a2, some a3, none] H := by
  unfold t_Lheight
  obtain ⟨op, n, lh, hs, vs, m, ht, rfl, rfl, rfl, rfl, hlh, th, pre, ok, q⟩ := h
  walk_at "zz"
  intro t1 ht1
  have S1 := same_new (o := .tup [V.int 4, .int 7, .int 8]) ht1
  refine s_in_t (SqT.of upd_same) rfl rfl ?_
  walk_at "zz"
  refine s_ifk (fun c => ?_) (fun c => ?_)
  · walk_at "zz"
    exact q _ _ S1
  walk_at "zz"
  refine cl_Lneeds ⟨op, n, lh, hs, vs, m, rfl, rfl, rfl, S1 _ _ hlh, th.mono (TupS.of S1), pre, ok, fun i H2 S2 => ?_⟩
  walk_at "zz"
  intro t2 ht2
  refine s_in_t (SqT.of upd_same) rfl rfl ?_
  walk_at "zz"
  exact q _ _ ((S1.trans S2).trans (same_new ht2))

theorem rd_Lcode {Z : Adr} (T : Top Z) {a0 : V} {H : Hp} {Q : VK} {E : XK} (h : q_Lcode Z a0 H Q E) : t_Lcode Z (fun cls d _ H => E cls d H) ⟨fun _ H' => Q .non H', Q, fun _ _ => False, fun _ _ => False⟩ [some a0, none, none, none, none, none, none, none, none] H := by
  unfold t_Lcode
  obtain ⟨p, rfl, P, q⟩ := h
  have big : 1000000 ≤ sizeLine := by decide
  walk_at "zz"
  refine c_take (by omega) P fun v H1 v0 v1 P1 B1 => ?_
  obtain ⟨m, hm⟩ : ∃ m : Nat, 1 + v = (m : Int) := ⟨(1 + v).toNat, by omega⟩
  walk_at "zz"
  rw [hm]
  intro lh hlh
  walk_at "zz"
  have nlh := P1.ne hlh
  have hlh0 : H lh = none := B1.none nlh hlh
  refine c_take (by omega) (by walk_at "st") fun v2 H2 v20 v21 P2 B2 => ?_
  have hlh2 := B2.rd nlh upd_same
  walk_at "zz"
  intro l3 hl3
  walk_at "zz"
  refine c_take (by omega) (by walk_at "st") fun v4 H4 v40 v41 P4 B4 => ?_
  have hlh4 := B4.rd nlh (up_new (u := .lst [.int 1, .int 2, .int 3, .int (1 + v2)]) hl3 hlh2)
  have B04 : But p H H4 := by walk_at "bt"
  walk_at "zz"
  refine s_ixI [1, 2, 3, 1 + v2] (SqL.of (B4.rd (P2.ne hl3) upd_same)) rfl v40 v41 fun w hw _ => ?_
  obtain ⟨fs, rfl⟩ : ∃ fs : Nat, w = (fs : Int) := ⟨w.toNat, by simp at hw; omega⟩
  have hfs : 1 ≤ fs ∧ fs ≤ 16 := by simp at hw; omega
  walk_at "zz"
  rw [Int.toNat_natCast]
  clear hw v40 v41 v20 v21 hl3
  refine loop_range (fun i σ' H' => But p H H' ∧ Pn Z.K PN H' p ∧ (∃ hs vs, H' lh = some (.lst vs) ∧ TupsAt H' hs vs ∧ PreH hs ∧ hs.length = i) ∧ ∃ x3 x4, σ' = [some (.ref p), some (.int m), some (.ref lh), x3, x4, none, none, none, none])
    ⟨B04, P4, ⟨[], [], hlh4, Row.nil, fun i h e => by simp at e, rfl⟩, _, _, rfl⟩ ?_ ?_
  · clear B04 P4 hlh4 B4 P2 B2 hlh2 P1 B1
    rintro i σ' H5 hi ⟨B5, P5, ⟨hs, vs, hl, th, pre, hsl⟩, x3, x4, rfl⟩
    have nlh := nlh
    have lenv := th.len
    rw [show (0 : Int) + (i : Int) = i by omega]
    walk_at "zz"
    refine c_take (by omega) P5 fun a H6 a0 a1 P6 B6 => ?_
    have hl6 := B6.rd nlh hl
    obtain ⟨pa, hpa⟩ : ∃ pa, pa = a * (if decide ((0 : Int) < (i : Int)) = true then 1 else 0) := ⟨_, rfl⟩
    have hpa2 : 0 ≤ pa ∧ pa ≤ (if 0 < i then 4 else 0) := by
      rw [hpa]
      by_cases z : 0 < i
      · rw [if_pos (by simpa using z), if_pos z]; omega
      · rw [if_neg (by simpa using z), if_neg z]; omega
    have hpa3 : pa ≤ 4 := by have := hpa2.2; split at this <;> omega
    walk_at "zz"
    rw [← hpa]
    walk_at "zz"
    intro l1 hl1
    walk_at "zz"
    refine c_take (by omega) (by walk_at "st") fun b H7 b0 b1 P7 B7 => ?_
    have hl7 := B7.rd nlh (up_new (u := .lst [.int 3, .int (13 - pa)]) hl1 hl6)
    walk_at "zz"
    refine s_ixI [3, 13 - pa] (SqL.of (B7.rd (P6.ne hl1) upd_same)) rfl b0 b1 fun w hw _ => ?_
    have hw' : 0 < w ∧ pa + w ≤ 13 := by simp at hw; omega
    walk_at "zz"
    refine c_take (by omega) P7 fun c H8 c0 c1 P8 B8 => ?_
    have hl8 := B8.rd nlh hl7
    have B58 : But p H5 H8 := (B6.trans ((But.of (same_new hl1)).trans B7)).trans B8
    walk_at "zz"
    intro lt hlt
    have S9 : Same H8 (upd H8 lt (.tup [.int 0, .int pa, .int (pa + c)])) := same_new hlt
    have h9 : upd H8 lt (.tup [.int 0, .int pa, .int (pa + c)]) lt = some (.tup ([0, pa, pa + c].map V.int)) := upd_same
    have th9 := th.mono ((P5.tups B58).trans (TupS.of S9))
    have hl9 := S9 _ _ hl8
    have P9 := P8.same S9
    generalize upd H8 lt (.tup [.int 0, .int pa, .int (pa + c)]) = H9 at *
    walk_at "zz"
    refine c_append hl9 (by omega) fun H10 B10 h10 => ?_
    have T10 := TupS.butL B10 hl9
    walk_at "zz"
    refine ⟨(B5.trans (B58.trans (But.of S9))).own B10 hlh0, P9.butN B10 nlh, ⟨_, _, h10, (th9.mono T10).app ⟨lt, rfl, T10 _ _ h9⟩, fun j h e => ?_, by rw [List.length_append, hsl]; rfl⟩, _, _, rfl⟩
    · by_cases z : j < hs.length
      · rw [List.getElem?_append_left z] at e
        exact pre j h e
      · rw [List.getElem?_append_right (by omega)] at e
        have z2 := (List.getElem?_eq_some_iff.mp e).1
        simp at z2
        have : j = i := by omega
        subst this
        rw [hsl, Nat.sub_self] at e
        cases e
        exact ⟨0, pa, pa + c, rfl, hpa2.1, hpa2.2, by omega, by omega⟩
  clear B04 P4 hlh4 B4 P2 B2 hlh2 P1 B1 hlh
  rintro σ' H5 ⟨B5, P5, ⟨hs, vs, hl, th, pre, hsl⟩, x3, x4, rfl⟩
  have lenv := th.len
  walk_at "zz"
  intro lr hlr
  walk_at "zz"
  intro lf hlf
  have S7 : Same H5 (upd (upd H5 lr (.lst [])) lf (.lst [])) := (same_new hlr).trans (same_new hlf)
  have hlr0 : H lr = none := B5.none (P5.ne hlr) hlr
  have nlr := P5.ne hlr
  have P6 : Pn Z.K PN (upd H5 lr (.lst [])) p := P5.new hlr
  have nlf := P6.ne hlf
  have hlf0 : H lf = none := (B5.new hlr).none nlf hlf
  have nrf : lr ≠ lf := ne_of_none upd_same hlf
  have nhr : lh ≠ lr := ne_of_none hl hlr
  have nhf : lh ≠ lf := ne_of_none (same_new hlr _ _ hl) hlf
  have P7 := P6.new (o := .lst []) hlf
  have B7 := B5.trans (But.of (p := p) S7)
  have hl7 := S7 _ _ hl
  have th7 := th.mono (TupS.of S7)
  have hr7 : upd (upd H5 lr (.lst [])) lf (.lst []) lr = some (.lst []) := up_new hlf upd_same
  have hf7 : upd (upd H5 lr (.lst [])) lf (.lst []) lf = some (.lst []) := upd_same
  generalize upd (upd H5 lr (.lst [])) lf (.lst []) = H7 at *
  walk_at "zz"
  rw [Int.toNat_natCast]
  clear S7 P5 B5 hl th hlr hlf P6
  refine loop_range (fun i σ' H' => But p H H' ∧ Pn Z.K PN H' p ∧ H' lh = some (.lst vs) ∧ TupsAt H' hs vs ∧ (∃ rs ws, H' lr = some (.lst ws) ∧ TupsAt H' rs ws ∧ rs.length = i ∧ ∀ r ∈ rs, RowOK r hs.length m) ∧
      ∃ (fl : List Int) (x3 : Option V) (ht : Int), H' lf = some (.lst (fl.map V.int)) ∧ fl.length ≤ i ∧ (∀ x ∈ fl, 0 ≤ x ∧ x < m) ∧ (i = 0 → ht = 0) ∧ (0 < i → 0 < fl.length) ∧ σ' = [some (.ref p), some (.int m), some (.ref lh), x3, x4, some (.ref lr), some (.ref lf), some (.int ht), none])
    ⟨B7, P7, hl7, th7, ⟨[], [], hr7, Row.nil, rfl, by simp⟩, [], _, 0, hf7, Nat.le_refl _, by simp, fun _ => rfl, fun h => absurd h (Nat.lt_irrefl _), rfl⟩ ?_ ?_
  · clear B7 P7 hl7 th7 hr7 hf7 x3
    rintro i σ' H8 hi ⟨B8, P8, hl8, th8, ⟨rs, ws, hr8, tr8, hrl, hrok⟩, fl, x3, ht, hf8, hfl, hfb, hht, hfp, rfl⟩
    rw [show (0 : Int) + (i : Int) = i by omega]
    walk_at "zz"
    refine s_cut (fun σ' H' => But p H H' ∧ Pn Z.K PN H' p ∧ H' lh = some (.lst vs) ∧ TupsAt H' hs vs ∧ H' lr = some (.lst ws) ∧ TupsAt H' rs ws ∧
      ∃ (fl : List Int), H' lf = some (.lst (fl.map V.int)) ∧ fl.length ≤ i + 1 ∧ (∀ x ∈ fl, 0 ≤ x ∧ x < m) ∧ 0 < fl.length ∧ σ' = [some (.ref p), some (.int m), some (.ref lh), some (.int i), x4, some (.ref lr), some (.ref lf), some (.int ht), none]) ?_ ?_
    · walk_at "zz"
      refine s_ifd (fun c => ?_) (fun c => ?_)
      · walk_at "zz"
        refine c_append hf8 (by rw [List.length_map]; omega) fun H9 B9 h9 => ?_
        have T9 := TupS.butL B9 hf8
        walk_at "zz"
        refine ⟨B8.own B9 hlf0, P8.butN B9 nlf, B9.rd nhf hl8, th8.mono T9, B9.rd nrf hr8, tr8.mono T9, fl ++ [(i : Int)], by rw [h9, List.map_append]; rfl, by rw [List.length_append]; simp; omega, fun x hx => ?_, by simp, rfl⟩
        rcases List.mem_append.mp hx with z | z
        · exact hfb x z
        · rw [List.mem_singleton.mp z]; omega
      · walk_at "zz"
        exact ⟨B8, P8, hl8, th8, hr8, tr8, fl, hf8, by omega, hfb, hfp (by omega), rfl⟩
    · clear B8 P8 hl8 th8 hr8 tr8 hf8 hfl hfb hfp fl
      rintro σ' H8 ⟨B8, P8, hl8, th8, hr8, tr8, fl, hf8, hfl, hfb, hfp, rfl⟩
      walk_at "zz"
      refine cl_Lrow ⟨p, ht, m, lh, hs, vs, rfl, rfl, rfl, rfl, by omega, by omega, nlh, P8, hl8, th8, pre, by omega, by omega, fun t op n H9 B9 P9 ht9 ok => ?_⟩
      have T9 := P8.tups B9
      have hr9 := B9.rd nlr hr8
      have hf9 := B9.rd nlf hf8
      have hl9 := B9.rd nlh hl8
      have lenw := tr8.len
      walk_at "zz"
      refine c_append hr9 (by omega) fun H10 B10 h10 => ?_
      have T10 := TupS.butL B10 hr9
      have hl10 := B10.rd nhr hl9
      have th10 := th8.mono (T9.trans T10)
      have ht10 := T10 _ _ ht9
      have ei : (ws ++ [V.ref t])[i]? = some (.ref t) := by rw [List.getElem?_append_right (by omega), show i - ws.length = 0 by omega]; rfl
      walk_at "zz"
      refine s_ixN (SqL.of h10) ei ?_
      walk_at "zz"
      refine s_ix_t (SqT.of ht10) (v := .int op) rfl ?_
      walk_at "zz"
      refine s_ixN (SqL.of h10) ei ?_
      walk_at "zz"
      refine s_ix_t (SqT.of ht10) (v := .int n) rfl ?_
      walk_at "zz"
      refine cl_Lheight ⟨op, n, lh, hs, vs, m, ht, rfl, rfl, rfl, rfl, hl10, th10, pre, ok, fun x H11 S11 => ?_⟩
      walk_at "zz"
      have TS := TupS.of S11
      refine ⟨((B8.trans B9).own B10 hlr0).trans (But.of S11), (P9.butN B10 nlr).same S11, S11 _ _ hl10, th10.mono TS, ⟨rs ++ [[op, n]], _, S11 _ _ h10, TupsAt.mono TS (Row.app (tr8.mono (T9.trans T10)) (show TupI H10 [op, n] (.ref t) from ⟨t, rfl, ht10⟩)), by rw [List.length_append, hrl]; rfl, fun r hr => ?_⟩, fl, _, x, S11 _ _ (B10.rd nrf.symm hf9), hfl, hfb, fun z => absurd z (by omega), fun _ => hfp, rfl⟩
      rcases List.mem_append.mp hr with z | z
      · exact hrok r z
      · rw [List.mem_singleton.mp z]; exact ⟨op, n, rfl, ok⟩
  clear B7 P7 hl7 th7 hr7 hf7 x3
  rintro σ' H8 ⟨B8, P8, hl8, th8, ⟨rs, ws, hr8, tr8, hrl, hrok⟩, fl, x3, ht, hf8, hfl, hfb, hht, hfp, rfl⟩
  have hfp := hfp (by omega)
  walk_at "zz"
  refine loop_range (fun i σ' H' => But p H H' ∧ Pn Z.K PN H' p ∧ (∃ hs vs, H' lh = some (.lst vs) ∧ TupsAt H' hs vs ∧ PreH hs ∧ hs.length = fs ∧ ∀ j h, j < i → hs[j]? = some h → HeadOK h j rs.length) ∧ H' lr = some (.lst ws) ∧ TupsAt H' rs ws ∧ H' lf = some (.lst (fl.map V.int)) ∧
      ∃ (x3 x8 : Option V), σ' = [some (.ref p), some (.int m), some (.ref lh), x3, x4, some (.ref lr), some (.ref lf), some (.int ht), x8])
    ⟨B8, P8, ⟨hs, vs, hl8, th8, pre, hsl, fun j h hj => by omega⟩, hr8, tr8, hf8, _, _, rfl⟩ ?_ ?_
  · rw [lenv, hsl]
    rw [hsl] at hrok
    clear B8 P8 hl8 th8 hr8 tr8 hf8 pre hsl lenv x3 vs hs
    rintro i σ' H9 hi ⟨B9, P9, ⟨hs, vs, hl9, th9, pre, hsl, hok⟩, hr9, tr9, hf9, x3, x8, rfl⟩
    have hi2 : i < hs.length := by omega
    have lenv := th9.len
    obtain ⟨s0, pa, b, e, pa0, pa1, b0, b1⟩ := pre i _ (List.getElem?_eq_getElem hi2)
    obtain ⟨v0, ev, t0, rfl, ht0⟩ := th9.get (List.getElem?_eq_getElem hi2)
    rw [e] at ht0
    rw [show (0 : Int) + (i : Int) = i by omega]
    walk_at "zz"
    rw [List.length_map]
    refine c_take (by omega) P9 fun w H10 w0 w1 P10 B10 => ?_
    have hf10 := B10.rd nlf hf9
    have hl10 := B10.rd nlh hl9
    have T10 := P9.tups B10
    walk_at "zz"
    refine s_ixI fl (SqL.of hf10) rfl w0 (by omega) fun st hst _ => ?_
    have hst' := hfb st hst
    walk_at "zz"
    refine s_cut (fun σ' H' => But p H H' ∧ Pn Z.K PN H' p ∧ H' lh = some (.lst vs) ∧ TupsAt H' hs vs ∧ H' lr = some (.lst ws) ∧ TupsAt H' rs ws ∧ H' lf = some (.lst (fl.map V.int)) ∧ ∃ st : Int, 0 ≤ st ∧ st < m ∧
       σ' = [some (.ref p), some (.int m), some (.ref lh), some (.int i), x4, some (.ref lr), some (.ref lf), some (.int ht), some (.int st)]) ?_ ?_
    · have done : ∀ {H' : Hp}, But p H9 H' → Pn Z.K PN H' p → ∀ st : Int, 0 ≤ st → st < m → But p H H' ∧ Pn Z.K PN H' p ∧ H' lh = some (.lst vs) ∧ TupsAt H' hs vs ∧ H' lr = some (.lst ws) ∧ TupsAt H' rs ws ∧ H' lf = some (.lst (fl.map V.int)) ∧ ∃ st' : Int, 0 ≤ st' ∧ st' < m ∧
          [some (.ref p), some (.int m), some (.ref lh), some (.int i), x4, some (.ref lr), some (.ref lf), some (.int ht), some (.int st)] = [some (.ref p), some (.int m), some (.ref lh), some (.int i), x4, some (.ref lr), some (.ref lf), some (.int ht), some (.int st')] := fun B P st s0 s1 =>
        ⟨B9.trans B, P, B.rd nlh hl9, th9.mono (P9.tups B), B.rd nlr hr9, tr9.mono (P9.tups B), B.rd nlf hf9, st, s0, s1, rfl⟩
      walk_at "zz"
      refine s_ifd (fun c => ?_) (fun c => ?_)
      · walk_at "zz"
        refine c_take (by omega) P10 fun w2 H11 w20 w21 P11 B11 => ?_
        walk_at "zz"
        refine s_ifd (fun c => ?_) (fun c => ?_)
        · walk_at "zz"
          exact done (B10.trans B11) P11 0 (by omega) (by omega)
        · walk_at "zz"
          exact done (B10.trans B11) P11 st hst'.1 hst'.2
      · walk_at "zz"
        exact done B10 P10 st hst'.1 hst'.2
    · clear P10 B10 hf10 hl10 T10 hst hst' w0 w1
      rintro σ' H10 ⟨B10, P10, hl10, th10, hr10, tr10, hf10, st, st0, st1, rfl⟩
      obtain ⟨v1, ev1, t1, rfl, ht1⟩ := th10.get (List.getElem?_eq_getElem hi2)
      rw [e] at ht1
      walk_at "zz"
      refine s_ixN (SqL.of hl10) ev1 ?_
      walk_at "zz"
      refine s_ix_t (SqT.of ht1) (v := .int pa) rfl ?_
      walk_at "zz"
      refine s_ixN (SqL.of hl10) ev1 ?_
      walk_at "zz"
      refine s_ix_t (SqT.of ht1) (v := .int b) rfl ?_
      walk_at "zz"
      intro lt hlt
      have S11 : Same H10 (upd H10 lt (.tup [.int st, .int pa, .int b])) := same_new hlt
      have h11 : upd H10 lt (.tup [.int st, .int pa, .int b]) lt = some (.tup ([st, pa, b].map V.int)) := upd_same
      have P11 := P10.same S11
      have hl11 := S11 _ _ hl10
      have hr11 := S11 _ _ hr10
      have hf11 := S11 _ _ hf10
      have th11 := th10.mono (TupS.of S11)
      have tr11 := tr10.mono (TupS.of S11)
      generalize upd H10 lt (.tup [.int st, .int pa, .int b]) = H11 at *
      walk_at "zz"
      refine c_setL i (vs.set i (.ref lt)) hl11 (ixN_nat (by omega)) rfl fun H12 B12 h12 => ?_
      have T12 := TupS.butL B12 hl11
      walk_at "zz"
      refine ⟨(B10.trans (But.of S11)).own B12 hlh0, P11.butN B12 nlh, ⟨hs.set i [st, pa, b], _, h12, (th11.mono T12).set ⟨lt, rfl, T12 _ _ h11⟩, fun j h ej => ?_, by rw [List.length_set]; exact hsl, fun j h hj ej => ?_⟩, B12.rd nhr.symm hr11, tr11.mono T12, B12.rd nhf.symm hf11, _, _, rfl⟩
      · by_cases c : i = j
        · subst c
          rw [List.getElem?_set_self hi2] at ej
          cases ej
          exact ⟨st, pa, b, rfl, pa0, pa1, b0, b1⟩
        · rw [List.getElem?_set_ne c] at ej
          exact pre j h ej
      · by_cases c : i = j
        · subst c
          rw [List.getElem?_set_self hi2] at ej
          cases ej
          exact ⟨st, pa, b, rfl, st0, by omega, pa0, pa1, b0, b1⟩
        · rw [List.getElem?_set_ne c] at ej
          exact hok j h (by omega) ej
  · rw [lenv, hsl]
    rw [hsl] at hrok
    rintro σ' H9 ⟨B9, P9, ⟨hs, vs, hl9, th9, pre, hsl, hok⟩, hr9, tr9, hf9, x3, x8, rfl⟩
    walk_at "zz"
    intro t ht
    have S := same_new (o := .tup [.ref lh, .ref lr]) ht
    refine q t lh lr vs ws hs rs _ (by walk_at "bt") (by walk_at "st") upd_same nlh nlr (S _ _ hl9) (S _ _ hr9) (th9.mono (TupS.of S)) (tr9.mono (TupS.of S)) ⟨by omega, by omega, by omega, fun j h e => hok j h (by have := (List.getElem?_eq_some_iff.mp e).1; omega) e, fun r hr => ?_⟩ (by omega)
    rw [hsl, hrl]
    exact hrok r hr

theorem rd_Llist {Z : Adr} (T : Top Z) {a0 a1 : V} {H : Hp} {Q : VK} {E : XK} (h : q_Llist Z a0 a1 H Q E) : t_Llist Z (fun cls d _ H => E cls d H) ⟨fun _ H' => Q .non H', Q, fun _ _ => False, fun _ _ => False⟩ [some a0, some a1, none, none, none] H := by
  unfold t_Llist
  obtain ⟨lh, lr, hs, rs, vh, vr, rfl, rfl, C, hrl, hlh, hlr, th, tr, q⟩ := h
  have big : 1000000 ≤ sizeLine := by decide
  have lenh := th.len
  have lenr := tr.len
  have h16 := C.h16
  have sum3 : ∀ i, (hs.take i).flatten.length ≤ 100 := fun i => by
    rw [flat_sum fun x hx => C.h3 x (List.mem_of_mem_take hx), List.length_take]
    omega
  have sum2 : ∀ i, (rs.take i).flatten.length ≤ 100000 := fun i => by
    rw [flat_sum fun x hx => C.r2 x (List.mem_of_mem_take hx), List.length_take]
    omega
  walk_at "zz"
  intro lf hlf
  walk_at "zz"
  refine loop_list vh (fun i σ' H' => Same H H' ∧ (∃ lf, H lf = none ∧ H' lf = some (.lst (((hs.length : Int) :: (hs.take i).flatten).map V.int)) ∧ ∃ x3 x4, σ' = [some (.ref lh), some (.ref lr), some (.ref lf), x3, x4])) ⟨same_new hlf, lf, hlf, by rw [upd_same, lenh]; rfl, _, _, rfl⟩ (fun i σ' H' hi h => SqL.of (h.1 _ _ hlh)) ?_ ?_
  · rintro i v σ' H2 hv ⟨S2, l2, hl20, h2, x3, x4, rfl⟩
    obtain ⟨x, hx, t, rfl, ht⟩ := th.getv hv
    have hx3 := C.h3 x (List.mem_of_getElem? hx)
    have hi := List.getElem?_eq_some_iff.mp hx
    have ht2 := S2 _ _ ht
    walk_at "zz"
    intro l3 hl3
    refine s_add_l (up_new hl3 h2) (upd_same (o := .lst (x.map V.int))) (by have := sum3 i; simp only [List.length_map, List.length_cons]; omega) fun l4 hl4 => ?_
    walk_at "zz"
    have S4 := S2.trans (same_new (o := .lst (x.map V.int)) hl3)
    refine ⟨S4.trans (same_new hl4), l4, S4.free hl4, ?_, _, _, rfl⟩
    rw [upd_same, List.take_succ_eq_append_getElem hi.1, hi.2, List.flatten_append]
    simp
  rintro σ' H2 ⟨S2, l2, hl20, h2, x3, x4, rfl⟩
  rw [lenh, List.take_length] at h2
  have hlr2 := S2 _ _ hlr
  walk_at "zz"
  refine loop_list vr (fun i σ' H' => Same H H' ∧ (∃ lf, H lf = none ∧ H' lf = some (.lst (((hs.length : Int) :: (hs.flatten ++ (rs.take i).flatten)).map V.int)) ∧ ∃ x3 x4, σ' = [some (.ref lh), some (.ref lr), some (.ref lf), x3, x4])) ⟨S2, l2, hl20, by rw [h2]; simp, _, _, rfl⟩ (fun i σ' H' hi h => SqL.of (h.1 _ _ hlr)) ?_ ?_
  · clear S2 hl20 h2 l2 x3 x4 hlr2
    rintro i v σ' H2 hv ⟨S2, l2, hl20, h2, x3, x4, rfl⟩
    obtain ⟨x, hx, t, rfl, ht⟩ := tr.getv hv
    have hx3 := C.r2 x (List.mem_of_getElem? hx)
    have hi := List.getElem?_eq_some_iff.mp hx
    have ht2 := S2 _ _ ht
    walk_at "zz"
    intro l3 hl3
    refine s_add_l (up_new hl3 h2) (upd_same (o := .lst (x.map V.int))) (by have := sum2 i; have := sum3 hs.length; rw [List.take_length] at this; simp only [List.length_map, List.length_cons, List.length_append]; omega) fun l4 hl4 => ?_
    walk_at "zz"
    have S4 := S2.trans (same_new (o := .lst (x.map V.int)) hl3)
    refine ⟨S4.trans (same_new hl4), l4, S4.free hl4, ?_, _, _, rfl⟩
    rw [upd_same, List.take_succ_eq_append_getElem hi.1, hi.2, List.flatten_append]
    simp
  rintro σ' H3 ⟨S3, l3, hl30, h3, x3, x4, rfl⟩
  rw [lenr, List.take_length] at h3
  walk_at "zz"
  exact q l3 H3 S3 hl30 h3

theorem rd_Ltuples {Z : Adr} (T : Top Z) {a0 a1 : V} {H : Hp} {Q : VK} {E : XK} (h : q_Ltuples Z a0 a1 H Q E) : t_Ltuples Z (fun cls d _ H => E cls d H) ⟨fun _ H' => Q .non H', Q, fun _ _ => False, fun _ _ => False⟩ [some a0, some a1, none, none] H := by
  unfold t_Ltuples
  obtain ⟨l, m, xss, vs, rfl, rfl, hl, th, hm, q⟩ := h
  walk_at "zz"
  refine lc_lst vs (fun D j H' => Same H H' ∧ H' D = some (.lst [])) (fun D hD => ⟨same_new hD, upd_same⟩) (fun D j H' hD hj h => SqL.of (h.1 _ _ hl)) ?_ ?_
  · rintro D j v H2 hD hv ⟨S2, h2⟩
    obtain ⟨x, hx, t, rfl, ht⟩ := th.getv hv
    have ht2 := S2 _ _ ht
    walk_at "zz"
    rw [List.length_map, decide_eq_true (hm x (List.mem_of_getElem? hx))]
    walk_at "zz"
    exact ⟨S2, h2⟩
  · rintro D H2 hD ⟨S2, h2⟩
    walk_at "zz"
    exact q _ S2

theorem rd_law {Z : Adr} (T : Top Z) {a0 : V} {H : Hp} {Q : VK} {E : XK} (h : q_law Z a0 H Q E) : t_law Z (fun cls d _ H => E cls d H) ⟨fun _ H' => Q .non H', Q, fun _ _ => False, fun _ _ => False⟩ [some a0, none, none, none, none, none, none, none, none, none, none, none, none, none] H := by
  unfold t_law
  obtain ⟨a, ns, rfl, hO, hS, hns, q⟩ := h
  have big : 1000000 ≤ sizeLine := by decide
  walk_at "zz"
  refine cl_Lpen ⟨a, ns, rfl, hS, fun p H1 S1 hp0 P1 => ?_⟩
  walk_at "zz"
  refine cl_Lcode ⟨p, rfl, P1, fun t lh lr vh vr hs rs H2 B2 P2 ht nlh nlr hlh hlr th tr C hr24 => ?_⟩
  have lenh := th.len
  have lenr := tr.len
  have h16 := C.h16
  walk_at "zz"
  refine cl_Llist ⟨lh, lr, hs, rs, vh, vr, rfl, rfl, C, by omega, hlh, hlr, th, tr, fun ln H3 S3 hln0 hln => ?_⟩
  have hlh3 := S3 _ _ hlh
  have hlr3 := S3 _ _ hlr
  walk_at "zz"
  intro la hla
  have hla3 := same_new (o := .lst vh) hla
  have hlr4 := hla3 _ _ hlr3
  walk_at "zz"
  intro lb hlb
  walk_at "zz"
  intro lc hlc
  have S6 : Same H3 (upd (upd (upd H3 la (.lst vh)) lb (.lst vr)) lc (.lst [.ref la, .ref lb])) := (hla3.trans (same_new hlb)).trans (same_new hlc)
  have ha6 : upd (upd (upd H3 la (.lst vh)) lb (.lst vr)) lc (.lst [.ref la, .ref lb]) la = some (.lst vh) := up_new hlc (up_new hlb upd_same)
  have hb6 : upd (upd (upd H3 la (.lst vh)) lb (.lst vr)) lc (.lst [.ref la, .ref lb]) lb = some (.lst vr) := up_new hlc upd_same
  have hc6 : upd (upd (upd H3 la (.lst vh)) lb (.lst vr)) lc (.lst [.ref la, .ref lb]) lc = some (.lst [.ref la, .ref lb]) := upd_same
  have P3 := P2.same S3
  have na : la ≠ p := P3.ne hla
  have nb : lb ≠ p := (P3.new hla).ne hlb
  have nc : lc ≠ p := ((P3.new hla).new hlb).ne hlc
  have nln : ln ≠ p := P2.ne hln0
  have P6 := P3.same S6
  generalize upd (upd (upd H3 la (.lst vh)) lb (.lst vr)) lc (.lst [.ref la, .ref lb]) = H6 at *
  walk_at "zz"
  refine c_take (by omega) P6 fun v H7 v0 v1 P7 B7 => ?_
  have S36 := S3.trans S6
  have hlh7 := B7.rd nlh (S36 _ _ hlh)
  have hlr7 := B7.rd nlr (S36 _ _ hlr)
  have hln7 := B7.rd nln (S6 _ _ hln)
  have th7 := th.mono ((TupS.of S36).trans (P6.tups B7))
  have tr7 := tr.mono ((TupS.of S36).trans (P6.tups B7))
  have ha7 := B7.rd na ha6
  have hb7 := B7.rd nb hb6
  have hc7 := B7.rd nc hc6
  clear hlh hlr hln th tr ha6 hb6 hc6 hlh3 hlr3 hla3 hlr4 P2 P3 P6 S6 S36 hla hlb hlc
  walk_at "zz"
  refine s_cut (fun σ' H' => Same H7 H' ∧ ∃ (lc la lb : Addr) (sh sr : Bool), H' lc = some (.lst [.ref la, .ref lb]) ∧ SqB Z.K sh H' la vh ∧ SqB Z.K sr H' lb vr ∧ σ' = [some (.ref a), some (.ref p), some (.ref lh), some (.ref lr), some (.ref ln), some (.ref lc), some (.int v), none, none, none, none, none, none, none]) ?_ ?_
  · walk_at "zz"
    refine s_ifd (fun c => ?_) (fun c => ?_)
    · walk_at "zz"
      intro l1 hl1
      have S1 := same_new (o := .tup vh) hl1
      have hlr8 := S1 _ _ hlr7
      walk_at "zz"
      intro l2 hl2
      walk_at "zz"
      intro l3 hl3
      walk_at "zz"
      exact ⟨(S1.trans (same_new hl2)).trans (same_new hl3), l3, l1, l2, false, false, upd_same, SqT.of (up_new hl3 (up_new hl2 upd_same)), SqT.of (up_new hl3 upd_same), rfl⟩
    · walk_at "zz"
      exact ⟨Same.refl _, lc, la, lb, true, true, hc7, SqL.of ha7, SqL.of hb7, rfl⟩
  rintro σ' H8 ⟨S8, lc, la, lb, sh, sr, hc8, sa8, sb8, rfl⟩
  have th8 := th7.mono (TupS.of S8)
  have tr8 := tr7.mono (TupS.of S8)
  clear hc7 ha7 hb7
  walk_at "zz"
  refine s_cut (fun σ' H' => Same H7 H' ∧ ∃ (lc la lb : Addr) (vh' vr' : List V) (sh sr : Bool), H' lc = some (.lst [.ref la, .ref lb]) ∧ SqB Z.K sh H' la vh' ∧ SqB Z.K sr H' lb vr' ∧ Row (SeqI Z.K H') hs vh' ∧ Row (SeqI Z.K H') rs vr' ∧ σ' = [some (.ref a), some (.ref p), some (.ref lh), some (.ref lr), some (.ref ln), some (.ref lc), some (.int v), none, none, none, none, none, none, none]) ?_ ?_
  · walk_at "zz"
    refine s_ifd (fun c => ?_) (fun c => ?_)
    · walk_at "zz"
      have e0 : ∀ {H' : Hp} {Q : VK}, Same H8 H' → Q (.ref la) H' → tOp (rIx Z.K) (tVar 5) (tC (.int 0)) [some (.ref a), some (.ref p), some (.ref lh), some (.ref lr), some (.ref ln), some (.ref lc), some (.int v), none, none, none, none, none, none, none] H' Q := fun S z => by
        walk_at "zz"
        exact s_ix_l (SqL.of (S _ _ hc8)) (v := .ref la) rfl z
      have e1 : ∀ {H' : Hp} {Q : VK}, Same H8 H' → Q (.ref lb) H' → tOp (rIx Z.K) (tVar 5) (tC (.int 1)) [some (.ref a), some (.ref p), some (.ref lh), some (.ref lr), some (.ref ln), some (.ref lc), some (.int v), none, none, none, none, none, none, none] H' Q := fun S z => by
        walk_at "zz"
        exact s_ix_l (SqL.of (S _ _ hc8)) (v := .ref lb) rfl z
      refine s_iunE (fun Q z => e0 (Same.refl _) z) sa8 ?_
      refine lc_un vh (fun D j H' => Same H8 H' ∧ ∃ ws, H' D = some (.lst ws) ∧ Row (SeqI Z.K H') (hs.take j) ws ∧ ∀ w ∈ ws, ∀ l, w = .ref l → l ≠ D) (fun D hD => ⟨same_new hD, [], upd_same, Row.nil, by simp⟩) (fun D j H' hD hj h => sa8.same h.1) ?_ ?_
      · rintro D j w H9 hD hw ⟨S9, ws, h9, r9, nD⟩
        obtain ⟨x, hx, t, rfl, ht⟩ := th8.getv hw
        have hi := List.getElem?_eq_some_iff.mp hx
        have ht9 := S9 _ _ ht
        walk_at "zz"
        intro l hl
        have S10 := same_new (o := .lst (x.map V.int)) hl
        have nl : l ≠ D := (ne_of_none h9 hl).symm
        have lenw := r9.len
        rw [List.length_take] at lenw
        refine c_acc (S10 _ _ h9) (by omega) fun H11 B11 h11 => ?_
        refine ⟨same_own (S9.trans S10) B11 hD, _, h11, ?_, fun w hw l' e => ?_⟩
        · rw [List.take_succ_eq_append_getElem hi.1, hi.2]
          refine Row.app ⟨r9.1, fun i y z e1 e2 => ?_⟩ ⟨l, rfl, .inl (SqL.of (B11.rd nl upd_same))⟩
          obtain ⟨t, rfl, hz⟩ := (r9.2 i y z e1 e2).same S10
          exact ⟨t, rfl, seqU_but B11 (nD _ (List.mem_of_getElem? e2) t rfl) hz⟩
        · rcases List.mem_append.mp hw with z | z
          · exact nD w z l' e
          · rw [List.mem_singleton.mp z] at e
            cases e; exact nl
      rintro D H9 hD ⟨S9, ws, h9, r9, nD⟩
      rw [show vh.length = hs.length from lenh, List.take_length] at r9
      walk_at "zz"
      refine s_iunE (fun Q z => e1 S9 z) (sb8.same S9) ?_
      refine lc_un vr (fun D j H' => Same H9 H' ∧ ∃ ws, H' D = some (.lst ws) ∧ Row (SeqI Z.K H') (rs.take j) ws ∧ ∀ w ∈ ws, ∀ l, w = .ref l → l ≠ D) (fun D hD => ⟨same_new hD, [], upd_same, Row.nil, by simp⟩) (fun D j H' hD hj h => sb8.same (S9.trans h.1)) ?_ ?_
      · rintro D j w H10 hD hw ⟨S10, ws, h10, r10, nD⟩
        obtain ⟨x, hx, t, rfl, ht⟩ := tr8.getv hw
        have hi := List.getElem?_eq_some_iff.mp hx
        have ht10 := S10 _ _ (S9 _ _ ht)
        walk_at "zz"
        intro l hl
        have S11 := same_new (o := .lst (x.map V.int)) hl
        have nl : l ≠ D := (ne_of_none h10 hl).symm
        have lenw := r10.len
        rw [List.length_take] at lenw
        refine c_acc (S11 _ _ h10) (by omega) fun H12 B12 h12 => ?_
        refine ⟨same_own (S10.trans S11) B12 hD, _, h12, ?_, fun w hw l' e => ?_⟩
        · rw [List.take_succ_eq_append_getElem hi.1, hi.2]
          refine Row.app ⟨r10.1, fun i y z e1 e2 => ?_⟩ ⟨l, rfl, .inl (SqL.of (B12.rd nl upd_same))⟩
          obtain ⟨t, rfl, hz⟩ := (r10.2 i y z e1 e2).same S11
          exact ⟨t, rfl, seqU_but B12 (nD _ (List.mem_of_getElem? e2) t rfl) hz⟩
        · rcases List.mem_append.mp hw with z | z
          · exact nD w z l' e
          · rw [List.mem_singleton.mp z] at e
            cases e; exact nl
      rintro D2 H10 hD2 ⟨S10, ws2, h10, r10, nD2⟩
      rw [show vr.length = rs.length from lenr, List.take_length] at r10
      walk_at "zz"
      intro l3 hl3
      walk_at "zz"
      intro l4 hl4
      walk_at "zz"
      have S34 := (same_new (o := .tup ws2) hl3).trans (same_new (o := .lst [.ref D, .ref l3]) hl4)
      exact ⟨((S8.trans S9).trans S10).trans S34, l4, D, l3, ws, ws2, true, false, upd_same, SqL.of (S34 _ _ (S10 _ _ h9)), SqT.of (up_new hl4 upd_same), r9.imp fun _ _ _ z => z.same (S10.trans S34), r10.imp fun _ _ _ z => z.same S34, rfl⟩
    · walk_at "zz"
      exact ⟨S8, lc, la, lb, vh, vr, sh, sr, hc8, sa8, sb8, th8.imp fun _ _ _ z => z.seq, tr8.imp fun _ _ _ z => z.seq, rfl⟩
  clear sa8 sb8 hc8 th8 tr8 S8
  rintro σ' H8 ⟨S8, lc, la, lb, vh', vr', sh, sr, hc8, sa8, sb8, rh8, rr8, rfl⟩
  have hlh8 := S8 _ _ hlh7
  have hlr8 := S8 _ _ hlr7
  have hln8 := S8 _ _ hln7
  have th8 := th7.mono (TupS.of S8)
  have tr8 := tr7.mono (TupS.of S8)
  have lenc := codeL_len C
  have I : IsCode (codeL hs rs) hs rs := ⟨C, rfl⟩
  have shI : Sh 1 (.list ((codeL hs rs).map PyData.int)) := Sh.list (n := 0) (sh_ints _)
  have shH : Sh 2 (.list (hs.map fun x => PyData.tuple (x.map PyData.int))) := Sh.list (n := 1) (sh_tups (n := 0) hs)
  have shR : Sh 2 (.list (rs.map fun x => PyData.tuple (x.map PyData.int))) := Sh.list (n := 1) (sh_tups (n := 0) rs)
  have dpI : ∀ {H' : Hp} {l : Addr}, H' l = some (.lst ((codeL hs rs).map V.int)) → Dp Z.K H' (.ref l) (.list ((codeL hs rs).map PyData.int)) := fun h => .lst (SqL.of h) (dp_ints _)
  have dpT : ∀ {H' : Hp} {l : Addr} {xss : List (List Int)} {vs : List V}, H' l = some (.lst vs) → TupsAt H' xss vs → Dp Z.K H' (.ref l) (.list (xss.map fun x => PyData.tuple (x.map PyData.int))) := fun h t => .lst (SqL.of h) (tups_dp t)
  clear S8 hlh7 hlr7 hln7 th7 tr7 S3 B7
  walk_at "zz"
  refine loop_range (fun i σ' H' => Same H8 H' ∧ ∃ x7 x8 x9 x10, σ' = [some (.ref a), some (.ref p), some (.ref lh), some (.ref lr), some (.ref ln), some (.ref lc), some (.int v), x7, x8, x9, x10, none, none, none]) ⟨Same.refl _, _, _, _, _, rfl⟩ ?_ ?_
  · rintro i σ' H9 hi ⟨S9, x7, x8, x9, x10, rfl⟩
    have hc9 := S9 _ _ hc8
    walk_at "zz"
    refine s_ix_l (SqL.of hc9) (v := .ref la) rfl ?_
    walk_at "zz"
    refine s_ix_l (SqL.of hc9) (v := .ref lb) rfl ?_
    walk_at "zz"
    refine cl_code_of ⟨hs, rs, ⟨la, vh', rfl, (sa8.same S9).or, rh8.imp fun _ _ _ z => z.same S9⟩, ⟨lb, vr', rfl, (sb8.same S9).or, rr8.imp fun _ _ _ z => z.same S9⟩, C, by omega, fun lf H10 S10 hlf0 hlf => ?_⟩
    have S810 := S9.trans S10
    walk_at "zz"
    refine s_ne_d (dpI hlf) (dpI (S810 _ _ hln8)) (shI.shaped (by decide)) (shI.shaped (by decide)) ?_
    rw [shI.refl]
    walk_at "zz"
    refine cl_is_code ⟨lf, _, rfl, SqL.of hlf, by omega, fun _ _ _ H11 S11 => ?_, fun no => absurd I (no _ _)⟩
    have hlf11 := S11 _ _ hlf
    walk_at "zz"
    refine s_nft rfl ?_
    walk_at "zz"
    refine cl_heads_of ⟨lf, _, hs, rs, rfl, SqL.of hlf11, by omega, I, fun lh2 H12 S12 T12 => ?_⟩
    have hlf12 := S12 _ _ hlf11
    walk_at "zz"
    refine cl_rows_of ⟨lf, _, hs, rs, rfl, SqL.of hlf12, by omega, I, fun lr2 H13 S13 T13 => ?_⟩
    obtain ⟨hh0, vh2, hh2, th2⟩ := T12
    obtain ⟨hr0, vr2, hr2, tr2⟩ := T13
    have hlf13 := S13 _ _ hlf12
    have hh13 := S13 _ _ hh2
    have th13 := th2.mono (TupS.of S13)
    walk_at "zz"
    refine cl_Ltuples ⟨lh2, 3, hs, vh2, rfl, rfl, hh13, th13, fun x hx => by rw [C.h3 x hx]; rfl, fun H14 S14 => ?_⟩
    walk_at "zz"
    refine cl_Ltuples ⟨lr2, 2, rs, vr2, rfl, rfl, S14 _ _ hr2, tr2.mono (TupS.of S14), fun x hx => by rw [C.r2 x hx]; rfl, fun H15 S15 => ?_⟩
    have S1315 := S14.trans S15
    have S815 := ((S810.trans S11).trans (S12.trans S13)).trans S1315
    have hlf15 := S1315 _ _ hlf13
    have hh15 := S1315 _ _ hh13
    have th15 := th13.mono (TupS.of S1315)
    have hr15 := S1315 _ _ hr2
    have tr15 := tr2.mono (TupS.of S1315)
    walk_at "zz"
    refine s_ne_d (dpT hh15 th15) (dpT (S815 _ _ hlh8) (th8.mono (TupS.of S815))) (shH.shaped (by decide)) (shH.shaped (by decide)) ?_
    rw [shH.refl]
    walk_at "zz"
    refine s_ne_d (dpT hr15 tr15) (dpT (S815 _ _ hlr8) (tr8.mono (TupS.of S815))) (shR.shaped (by decide)) (shR.shaped (by decide)) ?_
    rw [shR.refl]
    walk_at "zz"
    refine s_ne_d (dpI hlf15) (dpI (S815 _ _ hln8)) (shI.shaped (by decide)) (shI.shaped (by decide)) ?_
    rw [shI.refl]
    walk_at "zz"
    have hh80 : H8 lh2 = none := (S810.trans S11).free hh0
    have hr80 : H8 lr2 = none := ((S810.trans S11).trans S12).free hr0
    have hf80 : H8 lf = none := S9.free hlf0
    have nfh : lf ≠ lh2 := ne_of_none hlf11 hh0
    have nfr : lf ≠ lr2 := ne_of_none hlf12 hr0
    have nrh : lr2 ≠ lh2 := (ne_of_none hh2 hr0).symm
    refine c_clear hh15 fun H16 B16 h16 => ?_
    have S816 := same_own S815 B16 hh80
    have hr16 := B16.rd nrh hr15
    have hf16 := B16.rd nfh hlf15
    walk_at "zz"
    intro t0 ht0
    have S17 := same_new (o := .tup [.int 0, .int 0]) ht0
    have lenr2 := tr15.len
    walk_at "zz"
    refine c_append (S17 _ _ hr16) (by omega) fun H18 B18 h18 => ?_
    have S818 := same_own (S816.trans S17) B18 hr80
    have hf18 := B18.rd nfr (S17 _ _ hf16)
    walk_at "zz"
    refine cl_heads_of ⟨lf, _, hs, rs, rfl, SqL.of hf18, by omega, I, fun lh3 H19 S19 T19 => ?_⟩
    obtain ⟨_, vh3, hh3, th3⟩ := T19
    have S819 := S818.trans S19
    walk_at "zz"
    refine s_ne_d (dpT hh3 th3) (dpT (S819 _ _ hlh8) (th8.mono (TupS.of S819))) (shH.shaped (by decide)) (shH.shaped (by decide)) ?_
    rw [shH.refl]
    walk_at "zz"
    refine cl_rows_of ⟨lf, _, hs, rs, rfl, SqL.of (S19 _ _ hf18), by omega, I, fun lr3 H20 S20 T20 => ?_⟩
    obtain ⟨_, vr3, hr3, tr3⟩ := T20
    have S820 := S819.trans S20
    have hf20 := S20 _ _ (S19 _ _ hf18)
    walk_at "zz"
    refine s_ne_d (dpT hr3 tr3) (dpT (S820 _ _ hlr8) (tr8.mono (TupS.of S820))) (shR.shaped (by decide)) (shR.shaped (by decide)) ?_
    rw [shR.refl]
    walk_at "zz"
    refine c_append hf20 (by rw [List.length_map]; omega) fun H21 B21 h21 => ?_
    walk_at "zz"
    exact ⟨same_own S820 B21 hf80, _, _, _, _, rfl⟩
  · rintro σ' H9 ⟨S9, x7, x8, x9, x10, rfl⟩
    have hln9 := S9 _ _ hln8
    walk_at "zz"
    intro l7 hl7
    refine s_add_l (up_new hl7 hln9) upd_same (by rw [List.length_map]; show _ + 1 ≤ _; omega) fun l8 hl8 => ?_
    walk_at "zz"
    have e : (codeL hs rs).map V.int ++ [V.int 7] = (codeL hs rs ++ [7]).map V.int := by rw [List.map_append]; rfl
    rw [e]
    refine cl_is_code ⟨l8, codeL hs rs ++ [7], rfl, SqL.of upd_same, by rw [List.length_append]; show _ + 1 ≤ _; omega, fun hs2 rs2 I2 => ?_, fun no H10 S10 => ?_⟩
    · exfalso
      have P2 := I2.part.1
      have e1 := P2.1
      have e2 : (codeL hs rs ++ [7])[0]? = some (hs.length : Int) := rfl
      rw [e2] at e1
      injection e1 with e1
      have e3 := P2.2.2.2.2
      rw [List.length_append, lenc] at e3
      have : ([7] : List Int).length = 1 := rfl
      omega
    · walk_at "zz"
      exact q _

theorem sc_is_whole : FnScope nm_is_whole ["thing"] (defScope st_is_whole) := ⟨rfl, rfl, rfl, by decide +kernel, rfl, by decide +kernel, by decide +kernel⟩
theorem ok_is_whole {P : Program} {w : World} {base : Heap} {Z : Adr} (T : Top Z)  : FnOk P w Z.K Z.mg base (L2.CX P w) 1 Z.f_is_whole Z.d_is_whole ["thing"] (sp_is_whole Z) := by
  refine FnOk.mono (T.F_is_whole.okX (k := 0) sc_is_whole (fun vs H Q E h => ?_) (fun cdv A outer s H vs Q E hr h => ?_)) (by decide)
  · obtain ⟨a0, rfl, _⟩ := h; rfl
  · obtain ⟨a0, rfl, h⟩ := h
    have tk : Takes (cxOf (L2.CX P w) P w Z.K Z.mg base nm_is_whole "is_whole" (defScope st_is_whole) Z.f_is_whole cdv A outer s H E) (fun cls d _ H => E cls d H) := takes_of rfl rfl rfl rfl
    have po : PassesOwn (model P w) (cxOf (L2.CX P w) P w Z.K Z.mg base nm_is_whole "is_whole" (defScope st_is_whole) Z.f_is_whole cdv A outer s H E).A (cxOf (L2.CX P w) P w Z.K Z.mg base nm_is_whole "is_whole" (defScope st_is_whole) Z.f_is_whole cdv A outer s H E).env (cxOf (L2.CX P w) P w Z.K Z.mg base nm_is_whole "is_whole" (defScope st_is_whole) Z.f_is_whole cdv A outer s H E).xe := passes_of rfl
    refine ⟨t_is_whole Z (fun cls d _ H => E cls d H), ?_, rd_is_whole T h⟩
    exact (pss_one (ps_ret (pe_and (pe_callB call_isi' (by rfl) T.n_isinstance (by decide +kernel) (pa_cons (pv 0) (pa_cons (pe_bltn (by rfl) T.n_int (by decide +kernel) rfl) pa_nil))) (pe_one (pe_not (pe_callB call_isi' (by rfl) T.n_isinstance (by decide +kernel) (pa_cons (pv 0) (pa_cons (pe_bltn (by rfl) T.n_bool (by decide +kernel) rfl) pa_nil))))))))

theorem sc_are_wholes : FnScope nm_are_wholes ["things", "many"] (defScope st_are_wholes) := ⟨rfl, rfl, rfl, by decide +kernel, rfl, by decide +kernel, by decide +kernel⟩
theorem ok_are_wholes {P : Program} {w : World} {base : Heap} {Z : Adr} (T : Top Z) (G_is_whole : FnOk P w Z.K Z.mg base (L2.CX P w) 1 Z.f_is_whole Z.d_is_whole ["thing"] (sp_is_whole Z)) : FnOk P w Z.K Z.mg base (L2.CX P w) 2 Z.f_are_wholes Z.d_are_wholes ["things", "many"] (sp_are_wholes Z) := by
  refine FnOk.mono (T.F_are_wholes.okX (k := 1) sc_are_wholes (fun vs H Q E h => ?_) (fun cdv A outer s H vs Q E hr h => ?_)) (by decide)
  · obtain ⟨a0, a1, rfl, _⟩ := h; rfl
  · obtain ⟨a0, a1, rfl, h⟩ := h
    have tk : Takes (cxOf (L2.CX P w) P w Z.K Z.mg base nm_are_wholes "are_wholes" (defScope st_are_wholes) Z.f_are_wholes cdv A outer s H E) (fun cls d _ H => E cls d H) := takes_of rfl rfl rfl rfl
    have po : PassesOwn (model P w) (cxOf (L2.CX P w) P w Z.K Z.mg base nm_are_wholes "are_wholes" (defScope st_are_wholes) Z.f_are_wholes cdv A outer s H E).A (cxOf (L2.CX P w) P w Z.K Z.mg base nm_are_wholes "are_wholes" (defScope st_are_wholes) Z.f_are_wholes cdv A outer s H E).env (cxOf (L2.CX P w) P w Z.K Z.mg base nm_are_wholes "are_wholes" (defScope st_are_wholes) Z.f_are_wholes cdv A outer s H E).xe := passes_of rfl
    refine ⟨t_are_wholes Z (fun cls d _ H => E cls d H), ?_, rd_are_wholes T h⟩
    exact (pss_cons (ps_if (PW.pt (pw_or (pt_not (pt_val (pe_callB call_isi' (by rfl) T.n_isinstance (by decide +kernel) (pa_cons (pv 0) (pa_cons (pe_tup (pa_cons (pe_bltn (by rfl) T.n_list (by decide +kernel) rfl) (pa_cons (pe_bltn (by rfl) T.n_tuple (by decide +kernel) rfl) pa_nil))) pa_nil))))) (pw_or1 (pt_cmpR (op_neU (hr.units)) (pe_callB call_len' (by rfl) T.n_len (by decide +kernel) (pa_cons (pv 0) pa_nil)) (pv 1) (nomark _))))) (pss_one (ps_ret pe_bl)) pss_nil)
      (pss_one (ps_ret (pe_callB (cr_all rfl) (by rfl) T.n_all (by decide +kernel) (pa_cons (pe_lc (own := [(".0", 2), ("thing", 3)]) (g := (gName 3)) (tt := tYes) rfl sc_are_wholes.nd (pi_un (pv 0)) (blkOk_by (own := [(".0", 2), ("thing", 3)]) (N := nm_are_wholes) (sc := defScope st_are_wholes) (by decide +kernel)) (fun _ _ _ _ _ => (pg_name (i := 3) sc_are_wholes.nd rfl (Or.inl rfl))) (fun _ _ _ _ _ => pts_nil) (fun _ _ _ _ _ => (pe_callS G_is_whole (hr.mono (by decide)) rfl T.m_is_whole T.k_is_whole T.b_is_whole passC (pa_cons (pv 3) pa_nil)))) pa_nil)))))

theorem sc_fits_op : FnScope nm_fits_op ["op", "number", "functions", "rows"] (defScope st_fits_op) := ⟨rfl, rfl, rfl, by decide +kernel, rfl, by decide +kernel, by decide +kernel⟩
theorem ok_fits_op {P : Program} {w : World} {base : Heap} {Z : Adr} (T : Top Z)  : FnOk P w Z.K Z.mg base (L2.CX P w) 1 Z.f_fits_op Z.d_fits_op ["op", "number", "functions", "rows"] (sp_fits_op Z) := by
  refine FnOk.mono (T.F_fits_op.okX (k := 0) sc_fits_op (fun vs H Q E h => ?_) (fun cdv A outer s H vs Q E hr h => ?_)) (by decide)
  · obtain ⟨a0, a1, a2, a3, rfl, _⟩ := h; rfl
  · obtain ⟨a0, a1, a2, a3, rfl, h⟩ := h
    have tk : Takes (cxOf (L2.CX P w) P w Z.K Z.mg base nm_fits_op "fits_op" (defScope st_fits_op) Z.f_fits_op cdv A outer s H E) (fun cls d _ H => E cls d H) := takes_of rfl rfl rfl rfl
    have po : PassesOwn (model P w) (cxOf (L2.CX P w) P w Z.K Z.mg base nm_fits_op "fits_op" (defScope st_fits_op) Z.f_fits_op cdv A outer s H E).A (cxOf (L2.CX P w) P w Z.K Z.mg base nm_fits_op "fits_op" (defScope st_fits_op) Z.f_fits_op cdv A outer s H E).env (cxOf (L2.CX P w) P w Z.K Z.mg base nm_fits_op "fits_op" (defScope st_fits_op) Z.f_fits_op cdv A outer s H E).xe := passes_of rfl
    refine ⟨t_fits_op Z (fun cls d _ H => E cls d H), ?_, rd_fits_op T h⟩
    exact (pss_cons (ps_if (pt_cmpR (op_eqU (hr.units)) (pv 0) (pe_glob rfl T.g_PUSH ⟨_, rfl⟩) (nomark _)) (pss_one (ps_ret pe_bl)) pss_nil)
      (pss_cons (ps_if (pt_cmpR op_in_seq (pv 0) (pe_tup (pa_cons (pe_glob rfl T.g_GET ⟨_, rfl⟩) (pa_cons (pe_glob rfl T.g_SET ⟨_, rfl⟩) pa_nil))) (by rfl)) (pss_one (ps_ret (pe_chain op_le op_lt pe_int (pv 1) (pe_glob rfl T.g_MOST_BOXES ⟨_, rfl⟩)))) pss_nil)
      (pss_cons (ps_if (pt_cmpR op_in_seq (pv 0) (pe_tup (pa_cons (pe_glob rfl T.g_JUMP ⟨_, rfl⟩) (pa_cons (pe_glob rfl T.g_UNLESS ⟨_, rfl⟩) pa_nil))) (by rfl)) (pss_one (ps_ret (pe_chain op_le op_lt pe_int (pv 1) (pv 3)))) pss_nil)
      (pss_cons (ps_if (pt_cmpR (op_eqU (hr.units)) (pv 0) (pe_glob rfl T.g_CALL ⟨_, rfl⟩) (nomark _)) (pss_one (ps_ret (pe_chain op_le op_lt pe_int (pv 1) (pv 2)))) pss_nil)
      (pss_cons (ps_if (pt_cmpR op_in_seq (pv 0) (pe_tup (pa_cons (pe_glob rfl T.g_DROP ⟨_, rfl⟩) (pa_cons (pe_glob rfl T.g_BACK ⟨_, rfl⟩) (pa_cons (pe_glob rfl T.g_FAIL ⟨_, rfl⟩) (pa_cons (pe_glob rfl T.g_BREATH ⟨_, rfl⟩) pa_nil))))) (by rfl)) (pss_one (ps_ret (pe_cmpR (op_eqU (hr.units)) (pv 1) pe_int (nomark _)))) pss_nil)
      (pss_cons (ps_if (pt_cmpR (op_eqU (hr.units)) (pv 0) (pe_glob rfl T.g_DO ⟨_, rfl⟩) (nomark _)) (pss_one (ps_ret (pe_chain op_le op_le (pe_glob rfl T.g_FIRST_DONE ⟨_, rfl⟩) (pv 1) (pe_glob rfl T.g_LAST_DONE ⟨_, rfl⟩)))) pss_nil)
      (pss_one (ps_ret (pe_and (pe_cmpR (op_eqU (hr.units)) (pv 0) (pe_glob rfl T.g_PICK ⟨_, rfl⟩) (nomark _)) (pe_one (pe_chain op_le op_le pe_int (pv 1) (pe_glob rfl T.g_MOST_PICKED ⟨_, rfl⟩))))))))))))

theorem sc_fits_head : FnScope nm_fits_head ["head", "at", "rows"] (defScope st_fits_head) := ⟨rfl, rfl, rfl, by decide +kernel, rfl, by decide +kernel, by decide +kernel⟩
theorem ok_fits_head {P : Program} {w : World} {base : Heap} {Z : Adr} (T : Top Z)  : FnOk P w Z.K Z.mg base (L2.CX P w) 1 Z.f_fits_head Z.d_fits_head ["head", "at", "rows"] (sp_fits_head Z) := by
  refine FnOk.mono (T.F_fits_head.okX (k := 0) sc_fits_head (fun vs H Q E h => ?_) (fun cdv A outer s H vs Q E hr h => ?_)) (by decide)
  · obtain ⟨a0, a1, a2, rfl, _⟩ := h; rfl
  · obtain ⟨a0, a1, a2, rfl, h⟩ := h
    have tk : Takes (cxOf (L2.CX P w) P w Z.K Z.mg base nm_fits_head "fits_head" (defScope st_fits_head) Z.f_fits_head cdv A outer s H E) (fun cls d _ H => E cls d H) := takes_of rfl rfl rfl rfl
    have po : PassesOwn (model P w) (cxOf (L2.CX P w) P w Z.K Z.mg base nm_fits_head "fits_head" (defScope st_fits_head) Z.f_fits_head cdv A outer s H E).A (cxOf (L2.CX P w) P w Z.K Z.mg base nm_fits_head "fits_head" (defScope st_fits_head) Z.f_fits_head cdv A outer s H E).env (cxOf (L2.CX P w) P w Z.K Z.mg base nm_fits_head "fits_head" (defScope st_fits_head) Z.f_fits_head cdv A outer s H E).xe := passes_of rfl
    refine ⟨t_fits_head Z (fun cls d _ H => E cls d H), ?_, rd_fits_head T h⟩
    exact (pss_cons (ps_asg (pv 0) (pg_un rfl (pgs_cons (pg_name (i := 3) sc_fits_head.nd rfl (Or.inl rfl)) (pgs_cons (pg_name (i := 4) sc_fits_head.nd rfl (Or.inl rfl)) (pgs_cons (pg_name (i := 5) sc_fits_head.nd rfl (Or.inl rfl)) pgs_nil)))))
      (pss_cons (ps_if (PW.pt (pw_or (pt_not (pt_chain op_le op_lt pe_int (pv 3) (pv 2))) (pw_or1 (pt_not (pt_chain op_le op_le pe_int (pv 4) (pe_op op_ml (pe_glob rfl T.g_MOST_PARAMS ⟨_, rfl⟩) (pe_callTy call_int' (by rfl) T.n_int (by decide +kernel) (pa_cons (pe_cmpR op_gt (pv 1) pe_int (nomark _)) pa_nil)))))))) (pss_one (ps_ret pe_bl)) pss_nil)
      (pss_one (ps_ret (pe_chain op_le op_le (pv 4) (pv 5) (pe_glob rfl T.g_MOST_BOXES ⟨_, rfl⟩))))))

theorem sc_make_code : FnScope nm_make_code ["heads", "rows"] (defScope st_make_code) := ⟨rfl, rfl, rfl, by decide +kernel, rfl, by decide +kernel, by decide +kernel⟩
theorem ok_make_code {P : Program} {w : World} {base : Heap} {Z : Adr} (T : Top Z) (G_fits_head : FnOk P w Z.K Z.mg base (L2.CX P w) 1 Z.f_fits_head Z.d_fits_head ["head", "at", "rows"] (sp_fits_head Z)) (G_fits_op : FnOk P w Z.K Z.mg base (L2.CX P w) 1 Z.f_fits_op Z.d_fits_op ["op", "number", "functions", "rows"] (sp_fits_op Z)) : FnOk P w Z.K Z.mg base (L2.CX P w) 2 Z.f_make_code Z.d_make_code ["heads", "rows"] (sp_make_code Z) := by
  refine FnOk.mono (T.F_make_code.okX (k := 1) sc_make_code (fun vs H Q E h => ?_) (fun cdv A outer s H vs Q E hr h => ?_)) (by decide)
  · obtain ⟨a0, a1, rfl, _⟩ := h; rfl
  · obtain ⟨a0, a1, rfl, h⟩ := h
    have tk : Takes (cxOf (L2.CX P w) P w Z.K Z.mg base nm_make_code "make_code" (defScope st_make_code) Z.f_make_code cdv A outer s H E) (fun cls d _ H => E cls d H) := takes_of rfl rfl rfl rfl
    have po : PassesOwn (model P w) (cxOf (L2.CX P w) P w Z.K Z.mg base nm_make_code "make_code" (defScope st_make_code) Z.f_make_code cdv A outer s H E).A (cxOf (L2.CX P w) P w Z.K Z.mg base nm_make_code "make_code" (defScope st_make_code) Z.f_make_code cdv A outer s H E).env (cxOf (L2.CX P w) P w Z.K Z.mg base nm_make_code "make_code" (defScope st_make_code) Z.f_make_code cdv A outer s H E).xe := passes_of rfl
    refine ⟨t_make_code Z (fun cls d _ H => E cls d H), ?_, rd_make_code T h⟩
    exact (pss_cons (ps_if (PW.pt (pw_or (pt_not (pt_chain op_le op_le pe_int (pe_callB call_len' (by rfl) T.n_len (by decide +kernel) (pa_cons (pv 0) pa_nil)) (pe_glob rfl T.g_MOST_FUNCTIONS ⟨_, rfl⟩))) (pw_or1 (pt_cmpR op_lt (pe_callB call_len' (by rfl) T.n_len (by decide +kernel) (pa_cons (pv 1) pa_nil)) pe_int (nomark _))))) (pss_one (ps_ret pe_bl)) pss_nil)
      (pss_cons (ps_for po rfl (pi_range1 rfl T.n_range (pa_cons (pe_callB call_len' (by rfl) T.n_len (by decide +kernel) (pa_cons (pv 0) pa_nil)) pa_nil)) (pg_name (i := 2) sc_make_code.nd rfl (Or.inl rfl)) (pss_one (ps_if (pt_not (pt_val (pe_callS G_fits_head (hr.mono (by decide)) rfl T.m_fits_head T.k_fits_head T.b_fits_head (fun σ => passAt tk σ) (pa_cons (pe_ix ix_seq (pv 0) (pv 2) (fun _ _ => rfl)) (pa_cons (pv 2) (pa_cons (pe_callB call_len' (by rfl) T.n_len (by decide +kernel) (pa_cons (pv 1) pa_nil)) pa_nil)))))) (pss_one (ps_ret pe_bl)) pss_nil)))
      (pss_cons (ps_for po rfl (pi_un (pv 1)) (pg_un rfl (pgs_cons (pg_name (i := 3) sc_make_code.nd rfl (Or.inl rfl)) (pgs_cons (pg_name (i := 4) sc_make_code.nd rfl (Or.inl rfl)) pgs_nil))) (pss_one (ps_if (pt_not (pt_val (pe_callS G_fits_op (hr.mono (by decide)) rfl T.m_fits_op T.k_fits_op T.b_fits_op (fun σ => passAt tk σ) (pa_cons (pv 3) (pa_cons (pv 4) (pa_cons (pe_callB call_len' (by rfl) T.n_len (by decide +kernel) (pa_cons (pv 0) pa_nil)) (pa_cons (pe_callB call_len' (by rfl) T.n_len (by decide +kernel) (pa_cons (pv 1) pa_nil)) pa_nil))))))) (pss_one (ps_ret pe_bl)) pss_nil)))
      (pss_one (ps_ret pe_bl)))))

theorem sc_cut_up : FnScope nm_cut_up ["numbers", "size"] (defScope st_cut_up) := ⟨rfl, rfl, rfl, by decide +kernel, rfl, by decide +kernel, by decide +kernel⟩
theorem ok_cut_up {P : Program} {w : World} {base : Heap} {Z : Adr} (T : Top Z)  : FnOk P w Z.K Z.mg base (L2.CX P w) 1 Z.f_cut_up Z.d_cut_up ["numbers", "size"] (sp_cut_up Z) := by
  refine FnOk.mono (T.F_cut_up.okX (k := 0) sc_cut_up (fun vs H Q E h => ?_) (fun cdv A outer s H vs Q E hr h => ?_)) (by decide)
  · obtain ⟨a0, a1, rfl, _⟩ := h; rfl
  · obtain ⟨a0, a1, rfl, h⟩ := h
    have tk : Takes (cxOf (L2.CX P w) P w Z.K Z.mg base nm_cut_up "cut_up" (defScope st_cut_up) Z.f_cut_up cdv A outer s H E) (fun cls d _ H => E cls d H) := takes_of rfl rfl rfl rfl
    have po : PassesOwn (model P w) (cxOf (L2.CX P w) P w Z.K Z.mg base nm_cut_up "cut_up" (defScope st_cut_up) Z.f_cut_up cdv A outer s H E).A (cxOf (L2.CX P w) P w Z.K Z.mg base nm_cut_up "cut_up" (defScope st_cut_up) Z.f_cut_up cdv A outer s H E).env (cxOf (L2.CX P w) P w Z.K Z.mg base nm_cut_up "cut_up" (defScope st_cut_up) Z.f_cut_up cdv A outer s H E).xe := passes_of rfl
    refine ⟨t_cut_up Z (fun cls d _ H => E cls d H), ?_, rd_cut_up T h⟩
    exact (pss_cons (ps_set (i := 2) sc_cut_up.nd rfl (Or.inl rfl) (pe_lst pa_nil))
      (pss_cons (ps_for po rfl (pi_range1 rfl T.n_range (pa_cons (pe_op op_fdv (pe_callB call_len' (by rfl) T.n_len (by decide +kernel) (pa_cons (pv 0) pa_nil)) (pv 1)) pa_nil)) (pg_name (i := 3) sc_cut_up.nd rfl (Or.inl rfl)) (pss_one (ps_expr (pe_bm PySem.F.plainAttrs_list PySem.F.slot_list_append PySem.F.type_list_append mt_append (pv 2) (pa_cons (pe_callTy call_tuple' (by rfl) T.n_tuple (by decide +kernel) (pa_cons (pe_slice sl_list (pv 0) (po_some (pe_op op_ml (pv 3) (pv 1))) (po_some (pe_op op_addU (pe_op op_ml (pv 3) (pv 1)) (pv 1)))) pa_nil)) pa_nil)))))
      (pss_one (ps_ret (pv 2)))))

theorem sc_parted_code : FnScope nm_parted_code ["thing"] (defScope st_parted_code) := ⟨rfl, rfl, rfl, by decide +kernel, rfl, by decide +kernel, by decide +kernel⟩
theorem ok_parted_code {P : Program} {w : World} {base : Heap} {Z : Adr} (T : Top Z) (G_are_wholes : FnOk P w Z.K Z.mg base (L2.CX P w) 2 Z.f_are_wholes Z.d_are_wholes ["things", "many"] (sp_are_wholes Z)) (G_cut_up : FnOk P w Z.K Z.mg base (L2.CX P w) 1 Z.f_cut_up Z.d_cut_up ["numbers", "size"] (sp_cut_up Z)) (G_make_code : FnOk P w Z.K Z.mg base (L2.CX P w) 2 Z.f_make_code Z.d_make_code ["heads", "rows"] (sp_make_code Z)) : FnOk P w Z.K Z.mg base (L2.CX P w) 3 Z.f_parted_code Z.d_parted_code ["thing"] (sp_parted_code Z) := by
  refine FnOk.mono (T.F_parted_code.okX (k := 2) sc_parted_code (fun vs H Q E h => ?_) (fun cdv A outer s H vs Q E hr h => ?_)) (by decide)
  · obtain ⟨a0, rfl, _⟩ := h; rfl
  · obtain ⟨a0, rfl, h⟩ := h
    have tk : Takes (cxOf (L2.CX P w) P w Z.K Z.mg base nm_parted_code "parted_code" (defScope st_parted_code) Z.f_parted_code cdv A outer s H E) (fun cls d _ H => E cls d H) := takes_of rfl rfl rfl rfl
    have po : PassesOwn (model P w) (cxOf (L2.CX P w) P w Z.K Z.mg base nm_parted_code "parted_code" (defScope st_parted_code) Z.f_parted_code cdv A outer s H E).A (cxOf (L2.CX P w) P w Z.K Z.mg base nm_parted_code "parted_code" (defScope st_parted_code) Z.f_parted_code cdv A outer s H E).env (cxOf (L2.CX P w) P w Z.K Z.mg base nm_parted_code "parted_code" (defScope st_parted_code) Z.f_parted_code cdv A outer s H E).xe := passes_of rfl
    refine ⟨t_parted_code Z (fun cls d _ H => E cls d H), ?_, rd_parted_code T h⟩
    exact (pss_cons (ps_if (PW.pt (pw_or (pt_not (pt_val (pe_callB call_isi' (by rfl) T.n_isinstance (by decide +kernel) (pa_cons (pv 0) (pa_cons (pe_bltn (by rfl) T.n_list (by decide +kernel) rfl) pa_nil))))) (pw_or (pt_cmpR (op_eqU (hr.units)) (pe_callB call_len' (by rfl) T.n_len (by decide +kernel) (pa_cons (pv 0) pa_nil)) pe_int (nomark _)) (pw_or1 (pt_not (pt_val (pe_callS G_are_wholes (hr.mono (by decide)) rfl T.m_are_wholes T.k_are_wholes T.b_are_wholes (fun σ => passAt tk σ) (pa_cons (pv 0) (pa_cons (pe_callB call_len' (by rfl) T.n_len (by decide +kernel) (pa_cons (pv 0) pa_nil)) pa_nil))))))))) (pss_one (ps_raise rfl tk (pmk_own PySem.F.excBase_ValueError T.oq_NoCode T.g_NoCode T.ok_NoCode (raises_own T.ob_NoCode T.oy_NoCode) rfl))) pss_nil)
      (pss_cons (ps_set (i := 1) sc_parted_code.nd rfl (Or.inl rfl) (pe_ix ix_seq (pv 0) pe_int (fun _ _ => rfl)))
      (pss_cons (ps_if (PW.pt (pw_or (pt_not (pt_chain op_le op_le pe_int (pv 1) (pe_glob rfl T.g_MOST_FUNCTIONS ⟨_, rfl⟩))) (pw_or (pt_cmpR op_lt (pe_callB call_len' (by rfl) T.n_len (by decide +kernel) (pa_cons (pv 0) pa_nil)) (pe_op op_addU (pe_op op_ml pe_int (pv 1)) pe_int) (nomark _)) (pw_or1 (pt_cmpR (op_eqU (hr.units)) (pe_op op_md (pe_op op_sub (pe_callB call_len' (by rfl) T.n_len (by decide +kernel) (pa_cons (pv 0) pa_nil)) (pe_op op_ml pe_int (pv 1))) pe_int) pe_int (nomark _)))))) (pss_one (ps_raise rfl tk (pmk_own PySem.F.excBase_ValueError T.oq_NoCode T.g_NoCode T.ok_NoCode (raises_own T.ob_NoCode T.oy_NoCode) rfl))) pss_nil)
      (pss_cons (ps_set (i := 2) sc_parted_code.nd rfl (Or.inl rfl) (pe_callS G_cut_up (hr.mono (by decide)) rfl T.m_cut_up T.k_cut_up T.b_cut_up (fun σ => passAt tk σ) (pa_cons (pe_slice sl_list (pv 0) (po_some pe_int) (po_some (pe_op op_addU (pe_op op_ml pe_int (pv 1)) pe_int))) (pa_cons pe_int pa_nil))))
      (pss_cons (ps_set (i := 3) sc_parted_code.nd rfl (Or.inl rfl) (pe_callS G_cut_up (hr.mono (by decide)) rfl T.m_cut_up T.k_cut_up T.b_cut_up (fun σ => passAt tk σ) (pa_cons (pe_slice sl_list (pv 0) (po_some (pe_op op_addU (pe_op op_ml pe_int (pv 1)) pe_int)) po_none) (pa_cons pe_int pa_nil))))
      (pss_cons (ps_if (pt_not (pt_val (pe_callS G_make_code (hr.mono (by decide)) rfl T.m_make_code T.k_make_code T.b_make_code (fun σ => passAt tk σ) (pa_cons (pv 2) (pa_cons (pv 3) pa_nil))))) (pss_one (ps_raise rfl tk (pmk_own PySem.F.excBase_ValueError T.oq_NoCode T.g_NoCode T.ok_NoCode (raises_own T.ob_NoCode T.oy_NoCode) rfl))) pss_nil)
      (pss_one (ps_ret (pe_tup (pa_cons (pv 2) (pa_cons (pv 3) pa_nil)))))))))))

theorem sc_is_code : FnScope nm_is_code ["thing"] (defScope st_is_code) := ⟨rfl, rfl, rfl, by decide +kernel, rfl, by decide +kernel, by decide +kernel⟩
theorem ok_is_code {P : Program} {w : World} {base : Heap} {Z : Adr} (T : Top Z) (G_parted_code : FnOk P w Z.K Z.mg base (L2.CX P w) 3 Z.f_parted_code Z.d_parted_code ["thing"] (sp_parted_code Z)) : FnOk P w Z.K Z.mg base (L2.CX P w) 4 Z.f_is_code Z.d_is_code ["thing"] (sp_is_code Z) := by
  refine FnOk.mono (T.F_is_code.okX (k := 3) sc_is_code (fun vs H Q E h => ?_) (fun cdv A outer s H vs Q E hr h => ?_)) (by decide)
  · obtain ⟨a0, rfl, _⟩ := h; rfl
  · obtain ⟨a0, rfl, h⟩ := h
    have tk : Takes (cxOf (L2.CX P w) P w Z.K Z.mg base nm_is_code "is_code" (defScope st_is_code) Z.f_is_code cdv A outer s H E) (fun cls d _ H => E cls d H) := takes_of rfl rfl rfl rfl
    have po : PassesOwn (model P w) (cxOf (L2.CX P w) P w Z.K Z.mg base nm_is_code "is_code" (defScope st_is_code) Z.f_is_code cdv A outer s H E).A (cxOf (L2.CX P w) P w Z.K Z.mg base nm_is_code "is_code" (defScope st_is_code) Z.f_is_code cdv A outer s H E).env (cxOf (L2.CX P w) P w Z.K Z.mg base nm_is_code "is_code" (defScope st_is_code) Z.f_is_code cdv A outer s H E).xe := passes_of rfl
    refine ⟨t_is_code Z (fun cls d _ H => E cls d H), ?_, rd_is_code T h⟩
    exact (pss_cons (ps_set (i := 1) sc_is_code.nd rfl (Or.inl rfl) pe_bl)
      (pss_cons (ps_try_only (tb := (fun W => (tDrop (tCallS (sp_parted_code Z) (WE W) (tCons (tVar 0) tNil))))) (ts := (fun a cls d => (tAsg (tC (.bl false)) (gName 1)))) rfl rfl ⟨rfl, by decide, Or.inl T.g_NoCode⟩ tk (fun W pn xe tk po => (pss_one (ps_expr (pe_callS G_parted_code (hr.mono (by decide)) rfl T.m_parted_code T.k_parted_code T.b_parted_code (fun σ => passAt tk σ) (pa_cons (pv 0) pa_nil))))) (fun a oe cls d pn hz hf => (pss_one (ps_set (i := 1) sc_is_code.nd rfl (Or.inl rfl) pe_bl))))
      (pss_one (ps_ret (pv 1)))))

theorem sc_heads_of : FnScope nm_heads_of ["code"] (defScope st_heads_of) := ⟨rfl, rfl, rfl, by decide +kernel, rfl, by decide +kernel, by decide +kernel⟩
theorem ok_heads_of {P : Program} {w : World} {base : Heap} {Z : Adr} (T : Top Z) (G_parted_code : FnOk P w Z.K Z.mg base (L2.CX P w) 3 Z.f_parted_code Z.d_parted_code ["thing"] (sp_parted_code Z)) : FnOk P w Z.K Z.mg base (L2.CX P w) 4 Z.f_heads_of Z.d_heads_of ["code"] (sp_heads_of Z) := by
  refine FnOk.mono (T.F_heads_of.okX (k := 3) sc_heads_of (fun vs H Q E h => ?_) (fun cdv A outer s H vs Q E hr h => ?_)) (by decide)
  · obtain ⟨a0, rfl, _⟩ := h; rfl
  · obtain ⟨a0, rfl, h⟩ := h
    have tk : Takes (cxOf (L2.CX P w) P w Z.K Z.mg base nm_heads_of "heads_of" (defScope st_heads_of) Z.f_heads_of cdv A outer s H E) (fun cls d _ H => E cls d H) := takes_of rfl rfl rfl rfl
    have po : PassesOwn (model P w) (cxOf (L2.CX P w) P w Z.K Z.mg base nm_heads_of "heads_of" (defScope st_heads_of) Z.f_heads_of cdv A outer s H E).A (cxOf (L2.CX P w) P w Z.K Z.mg base nm_heads_of "heads_of" (defScope st_heads_of) Z.f_heads_of cdv A outer s H E).env (cxOf (L2.CX P w) P w Z.K Z.mg base nm_heads_of "heads_of" (defScope st_heads_of) Z.f_heads_of cdv A outer s H E).xe := passes_of rfl
    refine ⟨t_heads_of Z (fun cls d _ H => E cls d H), ?_, rd_heads_of T h⟩
    exact (pss_one (ps_ret (pe_ix ix_seq (pe_callS G_parted_code (hr.mono (by decide)) rfl T.m_parted_code T.k_parted_code T.b_parted_code (fun σ => passAt tk σ) (pa_cons (pv 0) pa_nil)) pe_int (fun _ _ => rfl))))

theorem sc_rows_of : FnScope nm_rows_of ["code"] (defScope st_rows_of) := ⟨rfl, rfl, rfl, by decide +kernel, rfl, by decide +kernel, by decide +kernel⟩
theorem ok_rows_of {P : Program} {w : World} {base : Heap} {Z : Adr} (T : Top Z) (G_parted_code : FnOk P w Z.K Z.mg base (L2.CX P w) 3 Z.f_parted_code Z.d_parted_code ["thing"] (sp_parted_code Z)) : FnOk P w Z.K Z.mg base (L2.CX P w) 4 Z.f_rows_of Z.d_rows_of ["code"] (sp_rows_of Z) := by
  refine FnOk.mono (T.F_rows_of.okX (k := 3) sc_rows_of (fun vs H Q E h => ?_) (fun cdv A outer s H vs Q E hr h => ?_)) (by decide)
  · obtain ⟨a0, rfl, _⟩ := h; rfl
  · obtain ⟨a0, rfl, h⟩ := h
    have tk : Takes (cxOf (L2.CX P w) P w Z.K Z.mg base nm_rows_of "rows_of" (defScope st_rows_of) Z.f_rows_of cdv A outer s H E) (fun cls d _ H => E cls d H) := takes_of rfl rfl rfl rfl
    have po : PassesOwn (model P w) (cxOf (L2.CX P w) P w Z.K Z.mg base nm_rows_of "rows_of" (defScope st_rows_of) Z.f_rows_of cdv A outer s H E).A (cxOf (L2.CX P w) P w Z.K Z.mg base nm_rows_of "rows_of" (defScope st_rows_of) Z.f_rows_of cdv A outer s H E).env (cxOf (L2.CX P w) P w Z.K Z.mg base nm_rows_of "rows_of" (defScope st_rows_of) Z.f_rows_of cdv A outer s H E).xe := passes_of rfl
    refine ⟨t_rows_of Z (fun cls d _ H => E cls d H), ?_, rd_rows_of T h⟩
    exact (pss_one (ps_ret (pe_ix ix_seq (pe_callS G_parted_code (hr.mono (by decide)) rfl T.m_parted_code T.k_parted_code T.b_parted_code (fun σ => passAt tk σ) (pa_cons (pv 0) pa_nil)) pe_int (fun _ _ => rfl))))

theorem sc_code_of : FnScope nm_code_of ["heads", "rows"] (defScope st_code_of) := ⟨rfl, rfl, rfl, by decide +kernel, rfl, by decide +kernel, by decide +kernel⟩
theorem ok_code_of {P : Program} {w : World} {base : Heap} {Z : Adr} (T : Top Z) (G_are_wholes : FnOk P w Z.K Z.mg base (L2.CX P w) 2 Z.f_are_wholes Z.d_are_wholes ["things", "many"] (sp_are_wholes Z)) (G_make_code : FnOk P w Z.K Z.mg base (L2.CX P w) 2 Z.f_make_code Z.d_make_code ["heads", "rows"] (sp_make_code Z)) : FnOk P w Z.K Z.mg base (L2.CX P w) 3 Z.f_code_of Z.d_code_of ["heads", "rows"] (sp_code_of Z) := by
  refine FnOk.mono (T.F_code_of.okX (k := 2) sc_code_of (fun vs H Q E h => ?_) (fun cdv A outer s H vs Q E hr h => ?_)) (by decide)
  · obtain ⟨a0, a1, rfl, _⟩ := h; rfl
  · obtain ⟨a0, a1, rfl, h⟩ := h
    have tk : Takes (cxOf (L2.CX P w) P w Z.K Z.mg base nm_code_of "code_of" (defScope st_code_of) Z.f_code_of cdv A outer s H E) (fun cls d _ H => E cls d H) := takes_of rfl rfl rfl rfl
    have po : PassesOwn (model P w) (cxOf (L2.CX P w) P w Z.K Z.mg base nm_code_of "code_of" (defScope st_code_of) Z.f_code_of cdv A outer s H E).A (cxOf (L2.CX P w) P w Z.K Z.mg base nm_code_of "code_of" (defScope st_code_of) Z.f_code_of cdv A outer s H E).env (cxOf (L2.CX P w) P w Z.K Z.mg base nm_code_of "code_of" (defScope st_code_of) Z.f_code_of cdv A outer s H E).xe := passes_of rfl
    refine ⟨t_code_of Z (fun cls d _ H => E cls d H), ?_, rd_code_of T h⟩
    exact (pss_cons (ps_if (PW.pt (pw_or (pt_not (pt_val (pe_callB call_isi' (by rfl) T.n_isinstance (by decide +kernel) (pa_cons (pv 0) (pa_cons (pe_tup (pa_cons (pe_bltn (by rfl) T.n_list (by decide +kernel) rfl) (pa_cons (pe_bltn (by rfl) T.n_tuple (by decide +kernel) rfl) pa_nil))) pa_nil))))) (pw_or1 (pt_not (pt_val (pe_callB call_isi' (by rfl) T.n_isinstance (by decide +kernel) (pa_cons (pv 1) (pa_cons (pe_tup (pa_cons (pe_bltn (by rfl) T.n_list (by decide +kernel) rfl) (pa_cons (pe_bltn (by rfl) T.n_tuple (by decide +kernel) rfl) pa_nil))) pa_nil)))))))) (pss_one (ps_raise rfl tk (pmk_own PySem.F.excBase_ValueError T.oq_NoCode T.g_NoCode T.ok_NoCode (raises_own T.ob_NoCode T.oy_NoCode) rfl))) pss_nil)
      (pss_cons (ps_if (PW.pt (pw_or (pt_not (pt_val (pe_callB (cr_all rfl) (by rfl) T.n_all (by decide +kernel) (pa_cons (pe_lc (own := [(".0", 5), ("head", 2)]) (g := (gName 2)) (tt := tYes) rfl sc_code_of.nd (pi_un (pv 0)) (blkOk_by (own := [(".0", 5), ("head", 2)]) (N := nm_code_of) (sc := defScope st_code_of) (by decide +kernel)) (fun _ _ _ _ _ => (pg_name (i := 2) sc_code_of.nd rfl (Or.inl rfl))) (fun _ _ _ _ _ => pts_nil) (fun _ _ _ _ _ => (pe_callS G_are_wholes (hr.mono (by decide)) rfl T.m_are_wholes T.k_are_wholes T.b_are_wholes passC (pa_cons (pv 2) (pa_cons pe_int pa_nil))))) pa_nil)))) (pw_or1 (pt_not (pt_val (pe_callB (cr_all rfl) (by rfl) T.n_all (by decide +kernel) (pa_cons (pe_lc (own := [(".0", 5), ("row", 3)]) (g := (gName 3)) (tt := tYes) rfl sc_code_of.nd (pi_un (pv 1)) (blkOk_by (own := [(".0", 5), ("row", 3)]) (N := nm_code_of) (sc := defScope st_code_of) (by decide +kernel)) (fun _ _ _ _ _ => (pg_name (i := 3) sc_code_of.nd rfl (Or.inl rfl))) (fun _ _ _ _ _ => pts_nil) (fun _ _ _ _ _ => (pe_callS G_are_wholes (hr.mono (by decide)) rfl T.m_are_wholes T.k_are_wholes T.b_are_wholes passC (pa_cons (pv 3) (pa_cons pe_int pa_nil))))) pa_nil))))))) (pss_one (ps_raise rfl tk (pmk_own PySem.F.excBase_ValueError T.oq_NoCode T.g_NoCode T.ok_NoCode (raises_own T.ob_NoCode T.oy_NoCode) rfl))) pss_nil)
      (pss_cons (ps_if (pt_not (pt_val (pe_callS G_make_code (hr.mono (by decide)) rfl T.m_make_code T.k_make_code T.b_make_code (fun σ => passAt tk σ) (pa_cons (pv 0) (pa_cons (pv 1) pa_nil))))) (pss_one (ps_raise rfl tk (pmk_own PySem.F.excBase_ValueError T.oq_NoCode T.g_NoCode T.ok_NoCode (raises_own T.ob_NoCode T.oy_NoCode) rfl))) pss_nil)
      (pss_cons (ps_set (i := 4) sc_code_of.nd rfl (Or.inl rfl) (pe_lst (pa_cons (pe_callB call_len' (by rfl) T.n_len (by decide +kernel) (pa_cons (pv 0) pa_nil)) pa_nil)))
      (pss_cons (ps_for po rfl (pi_un (pv 0)) (pg_name (i := 2) sc_code_of.nd rfl (Or.inl rfl)) (pss_one (ps_expr (pe_bm PySem.F.plainAttrs_list PySem.F.slot_list_extend PySem.F.type_list_extend mt_extend (pv 4) (pa_cons (pe_callTy call_list' (by rfl) T.n_list (by decide +kernel) (pa_cons (pv 2) pa_nil)) pa_nil)))))
      (pss_cons (ps_for po rfl (pi_un (pv 1)) (pg_name (i := 3) sc_code_of.nd rfl (Or.inl rfl)) (pss_one (ps_expr (pe_bm PySem.F.plainAttrs_list PySem.F.slot_list_extend PySem.F.type_list_extend mt_extend (pv 4) (pa_cons (pe_callTy call_list' (by rfl) T.n_list (by decide +kernel) (pa_cons (pv 3) pa_nil)) pa_nil)))))
      (pss_one (ps_ret (pv 4)))))))))

theorem sc_Lpen : FnScope nm_Lpen ["_law_script"] (defScope st_Lpen) := ⟨rfl, rfl, rfl, by decide +kernel, rfl, by decide +kernel, by decide +kernel⟩
theorem ok_Lpen {P : Program} {w : World} {base : Heap} {Z : Adr} (T : Top Z)  : FnOk P w Z.K Z.mg base (L2.CX P w) 1 Z.f_Lpen Z.d_Lpen ["_law_script"] (sp_Lpen Z) := by
  refine FnOk.mono (T.F_Lpen.okX (k := 0) sc_Lpen (fun vs H Q E h => ?_) (fun cdv A outer s H vs Q E hr h => ?_)) (by decide)
  · obtain ⟨a0, rfl, _⟩ := h; rfl
  · obtain ⟨a0, rfl, h⟩ := h
    have tk : Takes (cxOf (L2.CX P w) P w Z.K Z.mg base nm_Lpen "_law_pen" (defScope st_Lpen) Z.f_Lpen cdv A outer s H E) (fun cls d _ H => E cls d H) := takes_of rfl rfl rfl rfl
    have po : PassesOwn (model P w) (cxOf (L2.CX P w) P w Z.K Z.mg base nm_Lpen "_law_pen" (defScope st_Lpen) Z.f_Lpen cdv A outer s H E).A (cxOf (L2.CX P w) P w Z.K Z.mg base nm_Lpen "_law_pen" (defScope st_Lpen) Z.f_Lpen cdv A outer s H E).env (cxOf (L2.CX P w) P w Z.K Z.mg base nm_Lpen "_law_pen" (defScope st_Lpen) Z.f_Lpen cdv A outer s H E).xe := passes_of rfl
    refine ⟨t_Lpen Z (fun cls d _ H => E cls d H), ?_, rd_Lpen T h⟩
    exact (pss_one (ps_ret (pe_lst (pa_cons (pv 0) (pa_cons pe_int (pa_cons pe_int (pa_cons pe_int pa_nil)))))))

theorem sc_Lmixed : FnScope nm_Lmixed ["_law_cell", "_law_turn"] (defScope st_Lmixed) := ⟨rfl, rfl, rfl, by decide +kernel, rfl, by decide +kernel, by decide +kernel⟩
theorem ok_Lmixed {P : Program} {w : World} {base : Heap} {Z : Adr} (T : Top Z)  : FnOk P w Z.K Z.mg base (L2.CX P w) 1 Z.f_Lmixed Z.d_Lmixed ["_law_cell", "_law_turn"] (sp_Lmixed Z) := by
  refine FnOk.mono (T.F_Lmixed.okX (k := 0) sc_Lmixed (fun vs H Q E h => ?_) (fun cdv A outer s H vs Q E hr h => ?_)) (by decide)
  · obtain ⟨a0, a1, rfl, _⟩ := h; rfl
  · obtain ⟨a0, a1, rfl, h⟩ := h
    have tk : Takes (cxOf (L2.CX P w) P w Z.K Z.mg base nm_Lmixed "_law_mixed" (defScope st_Lmixed) Z.f_Lmixed cdv A outer s H E) (fun cls d _ H => E cls d H) := takes_of rfl rfl rfl rfl
    have po : PassesOwn (model P w) (cxOf (L2.CX P w) P w Z.K Z.mg base nm_Lmixed "_law_mixed" (defScope st_Lmixed) Z.f_Lmixed cdv A outer s H E).A (cxOf (L2.CX P w) P w Z.K Z.mg base nm_Lmixed "_law_mixed" (defScope st_Lmixed) Z.f_Lmixed cdv A outer s H E).env (cxOf (L2.CX P w) P w Z.K Z.mg base nm_Lmixed "_law_mixed" (defScope st_Lmixed) Z.f_Lmixed cdv A outer s H E).xe := passes_of rfl
    refine ⟨t_Lmixed Z (fun cls d _ H => E cls d H), ?_, rd_Lmixed T h⟩
    exact (pss_cons (ps_set (i := 2) sc_Lmixed.nd rfl (Or.inl rfl) (pe_op op_md (pe_op op_ml (pe_op op_addU (pe_op op_addU (pe_op op_md (pv 0) pe_int) (pe_op op_ml pe_int (pv 1))) pe_int) pe_int) pe_int))
      (pss_one (ps_ret (pe_op op_fdv (pe_op op_md (pe_op op_ml (pv 2) (pe_op op_addU (pe_op op_addU (pe_op op_md (pv 2) pe_int) (pv 1)) pe_int)) pe_int) pe_int))))

theorem sc_Ltake : FnScope nm_Ltake ["_law_pen_here", "_law_many"] (defScope st_Ltake) := ⟨rfl, rfl, rfl, by decide +kernel, rfl, by decide +kernel, by decide +kernel⟩
theorem ok_Ltake {P : Program} {w : World} {base : Heap} {Z : Adr} (T : Top Z) (G_Lmixed : FnOk P w Z.K Z.mg base (L2.CX P w) 1 Z.f_Lmixed Z.d_Lmixed ["_law_cell", "_law_turn"] (sp_Lmixed Z)) : FnOk P w Z.K Z.mg base (L2.CX P w) 2 Z.f_Ltake Z.d_Ltake ["_law_pen_here", "_law_many"] (sp_Ltake Z) := by
  refine FnOk.mono (T.F_Ltake.okX (k := 1) sc_Ltake (fun vs H Q E h => ?_) (fun cdv A outer s H vs Q E hr h => ?_)) (by decide)
  · obtain ⟨a0, a1, rfl, _⟩ := h; rfl
  · obtain ⟨a0, a1, rfl, h⟩ := h
    have tk : Takes (cxOf (L2.CX P w) P w Z.K Z.mg base nm_Ltake "_law_take" (defScope st_Ltake) Z.f_Ltake cdv A outer s H E) (fun cls d _ H => E cls d H) := takes_of rfl rfl rfl rfl
    have po : PassesOwn (model P w) (cxOf (L2.CX P w) P w Z.K Z.mg base nm_Ltake "_law_take" (defScope st_Ltake) Z.f_Ltake cdv A outer s H E).A (cxOf (L2.CX P w) P w Z.K Z.mg base nm_Ltake "_law_take" (defScope st_Ltake) Z.f_Ltake cdv A outer s H E).env (cxOf (L2.CX P w) P w Z.K Z.mg base nm_Ltake "_law_take" (defScope st_Ltake) Z.f_Ltake cdv A outer s H E).xe := passes_of rfl
    refine ⟨t_Ltake Z (fun cls d _ H => E cls d H), ?_, rd_Ltake T h⟩
    exact (C8.pss_cut (ps_if (pt_cmpR (op_eqU (hr.units)) (pe_ix ix_seq (pv 0) pe_int (fun _ _ => rfl)) pe_int (nomark _)) (pss_cons (ps_set (i := 2) sc_Ltake.nd rfl (Or.inl rfl) pe_int)
      (C8.pss_cut (ps_if (pt_cmpR op_gt (pe_callB call_len' (by rfl) T.n_len (by decide +kernel) (pa_cons (pe_ix ix_seq (pv 0) pe_int (fun _ _ => rfl)) pa_nil)) pe_int (nomark _)) (pss_one (ps_set (i := 2) sc_Ltake.nd rfl (Or.inl rfl) (pe_ix ix_seq (pe_ix ix_seq (pv 0) pe_int (fun _ _ => rfl)) (pe_op op_md (pe_ix ix_seq (pv 0) pe_int (fun _ _ => rfl)) (pe_callB call_len' (by rfl) T.n_len (by decide +kernel) (pa_cons (pe_ix ix_seq (pv 0) pe_int (fun _ _ => rfl)) pa_nil))) (fun _ _ => rfl)))) pss_nil)
      (pss_cons (ps_asg (pe_op op_addU (pe_ix ix_seq (pv 0) pe_int (fun _ _ => rfl)) pe_int) (pg_sub (pv 0) pe_int set_list))
      (pss_cons (ps_if (PW.pt (pw_or (pt_cmpR op_lt (pv 2) (pe_powc (by unfold CPow; decide) (by decide +kernel)) (nomark _)) (pw_or1 (pt_cmpR op_gt (pe_ix ix_seq (pv 0) pe_int (fun _ _ => rfl)) (pe_callB call_len' (by rfl) T.n_len (by decide +kernel) (pa_cons (pe_ix ix_seq (pv 0) pe_int (fun _ _ => rfl)) pa_nil)) (nomark _))))) (pss_cons (ps_asg (pe_op op_addU (pe_ix ix_seq (pv 0) pe_int (fun _ _ => rfl)) pe_int) (pg_sub (pv 0) pe_int set_list))
      (pss_one (ps_ret (pe_op op_md (pe_callS G_Lmixed (hr.mono (by decide)) rfl T.m_Lmixed T.k_Lmixed T.b_Lmixed (fun σ => passAt tk σ) (pa_cons (pv 2) (pa_cons (pe_ix ix_seq (pv 0) pe_int (fun _ _ => rfl)) pa_nil))) (pv 1))))) pss_nil)
      (pss_one (ps_asg (pv 2) (pg_sub (pv 0) pe_int set_list))))))) pss_nil)
      (pss_cons (ps_set (i := 3) sc_Ltake.nd rfl (Or.inl rfl) (pe_op op_md (pe_ix ix_seq (pv 0) pe_int (fun _ _ => rfl)) (pv 1)))
      (pss_cons (ps_asg (pe_op op_fdv (pe_ix ix_seq (pv 0) pe_int (fun _ _ => rfl)) (pv 1)) (pg_sub (pv 0) pe_int set_list))
      (pss_one (ps_ret (pv 3))))))

theorem sc_Lnumber : FnScope nm_Lnumber ["_law_pen_here"] (defScope st_Lnumber) := ⟨rfl, rfl, rfl, by decide +kernel, rfl, by decide +kernel, by decide +kernel⟩
theorem ok_Lnumber {P : Program} {w : World} {base : Heap} {Z : Adr} (T : Top Z) (G_Ltake : FnOk P w Z.K Z.mg base (L2.CX P w) 2 Z.f_Ltake Z.d_Ltake ["_law_pen_here", "_law_many"] (sp_Ltake Z)) : FnOk P w Z.K Z.mg base (L2.CX P w) 3 Z.f_Lnumber Z.d_Lnumber ["_law_pen_here"] (sp_Lnumber Z) := by
  refine FnOk.mono (T.F_Lnumber.okX (k := 2) sc_Lnumber (fun vs H Q E h => ?_) (fun cdv A outer s H vs Q E hr h => ?_)) (by decide)
  · obtain ⟨a0, rfl, _⟩ := h; rfl
  · obtain ⟨a0, rfl, h⟩ := h
    have tk : Takes (cxOf (L2.CX P w) P w Z.K Z.mg base nm_Lnumber "_law_number" (defScope st_Lnumber) Z.f_Lnumber cdv A outer s H E) (fun cls d _ H => E cls d H) := takes_of rfl rfl rfl rfl
    have po : PassesOwn (model P w) (cxOf (L2.CX P w) P w Z.K Z.mg base nm_Lnumber "_law_number" (defScope st_Lnumber) Z.f_Lnumber cdv A outer s H E).A (cxOf (L2.CX P w) P w Z.K Z.mg base nm_Lnumber "_law_number" (defScope st_Lnumber) Z.f_Lnumber cdv A outer s H E).env (cxOf (L2.CX P w) P w Z.K Z.mg base nm_Lnumber "_law_number" (defScope st_Lnumber) Z.f_Lnumber cdv A outer s H E).xe := passes_of rfl
    refine ⟨t_Lnumber Z (fun cls d _ H => E cls d H), ?_, rd_Lnumber T h⟩
    exact (pss_cons (ps_if (pt_cmpR (op_eqU (hr.units)) (pe_callS G_Ltake (hr.mono (by decide)) rfl T.m_Ltake T.k_Ltake T.b_Ltake (fun σ => passAt tk σ) (pa_cons (pv 0) (pa_cons pe_int pa_nil))) pe_int (nomark _)) (pss_one (ps_ret (pe_ix ix_seq (pe_lst (pa_cons (pe_powc (by unfold CPow; decide) (by decide +kernel)) (pa_cons (pe_op op_sub pe_int (pe_powc (by unfold CPow; decide) (by decide +kernel))) (pa_cons (pe_op op_sub (pe_powc (by unfold CPow; decide) (by decide +kernel)) pe_int) (pa_cons (pe_op op_sub pe_int pe_int) pa_nil))))) (pe_callS G_Ltake (hr.mono (by decide)) rfl T.m_Ltake T.k_Ltake T.b_Ltake (fun σ => passAt tk σ) (pa_cons (pv 0) (pa_cons pe_int pa_nil))) (fun _ _ => rfl)))) pss_nil)
      (pss_one (ps_ret (pe_op op_sub (pe_callS G_Ltake (hr.mono (by decide)) rfl T.m_Ltake T.k_Ltake T.b_Ltake (fun σ => passAt tk σ) (pa_cons (pv 0) (pa_cons pe_int pa_nil))) pe_int))))

theorem sc_Lneeds : FnScope nm_Lneeds ["_law_op", "_law_number_here", "_law_heads"] (defScope st_Lneeds) := ⟨rfl, rfl, rfl, by decide +kernel, rfl, by decide +kernel, by decide +kernel⟩
theorem ok_Lneeds {P : Program} {w : World} {base : Heap} {Z : Adr} (T : Top Z)  : FnOk P w Z.K Z.mg base (L2.CX P w) 1 Z.f_Lneeds Z.d_Lneeds ["_law_op", "_law_number_here", "_law_heads"] (sp_Lneeds Z) := by
  refine FnOk.mono (T.F_Lneeds.okX (k := 0) sc_Lneeds (fun vs H Q E h => ?_) (fun cdv A outer s H vs Q E hr h => ?_)) (by decide)
  · obtain ⟨a0, a1, a2, rfl, _⟩ := h; rfl
  · obtain ⟨a0, a1, a2, rfl, h⟩ := h
    have tk : Takes (cxOf (L2.CX P w) P w Z.K Z.mg base nm_Lneeds "_law_needs" (defScope st_Lneeds) Z.f_Lneeds cdv A outer s H E) (fun cls d _ H => E cls d H) := takes_of rfl rfl rfl rfl
    have po : PassesOwn (model P w) (cxOf (L2.CX P w) P w Z.K Z.mg base nm_Lneeds "_law_needs" (defScope st_Lneeds) Z.f_Lneeds cdv A outer s H E).A (cxOf (L2.CX P w) P w Z.K Z.mg base nm_Lneeds "_law_needs" (defScope st_Lneeds) Z.f_Lneeds cdv A outer s H E).env (cxOf (L2.CX P w) P w Z.K Z.mg base nm_Lneeds "_law_needs" (defScope st_Lneeds) Z.f_Lneeds cdv A outer s H E).xe := passes_of rfl
    refine ⟨t_Lneeds Z (fun cls d _ H => E cls d H), ?_, rd_Lneeds T h⟩
    exact (pss_cons (ps_if (pt_cmpR (op_eqU (hr.units)) (pv 0) pe_int (nomark _)) (pss_one (ps_ret (pe_ix ix_seq (pe_ix ix_seq (pv 2) (pv 1) (fun _ _ => rfl)) pe_int (fun _ _ => rfl)))) pss_nil)
      (pss_cons (ps_if (pt_cmpR (op_eqU (hr.units)) (pv 0) pe_int (nomark _)) (pss_one (ps_ret (pe_ix ix_seq (pe_lst (pa_cons pe_int (pa_cons pe_int (pa_cons pe_int (pa_cons pe_int (pa_cons pe_int (pa_cons pe_int (pa_cons pe_int (pa_cons pe_int (pa_cons pe_int (pa_cons pe_int (pa_cons pe_int (pa_cons pe_int pa_nil))))))))))))) (pe_op op_sub (pv 1) pe_int) (fun _ _ => rfl)))) pss_nil)
      (pss_one (ps_ret (pe_ix ix_seq (pe_lst (pa_cons pe_int (pa_cons pe_int (pa_cons pe_int (pa_cons pe_int (pa_cons pe_int (pa_cons pe_int (pa_cons pe_int (pa_cons pe_int (pa_cons pe_int (pa_cons pe_int (pa_cons pe_int (pa_cons pe_int pa_nil))))))))))))) (pv 0) (fun _ _ => rfl))))))

theorem sc_Lrow : FnScope nm_Lrow ["_law_pen_here", "_law_height_here", "_law_many", "_law_heads"] (defScope st_Lrow) := ⟨rfl, rfl, rfl, by decide +kernel, rfl, by decide +kernel, by decide +kernel⟩
theorem ok_Lrow {P : Program} {w : World} {base : Heap} {Z : Adr} (T : Top Z) (G_Ltake : FnOk P w Z.K Z.mg base (L2.CX P w) 2 Z.f_Ltake Z.d_Ltake ["_law_pen_here", "_law_many"] (sp_Ltake Z)) (G_Lnumber : FnOk P w Z.K Z.mg base (L2.CX P w) 3 Z.f_Lnumber Z.d_Lnumber ["_law_pen_here"] (sp_Lnumber Z)) (G_Lneeds : FnOk P w Z.K Z.mg base (L2.CX P w) 1 Z.f_Lneeds Z.d_Lneeds ["_law_op", "_law_number_here", "_law_heads"] (sp_Lneeds Z)) : FnOk P w Z.K Z.mg base (L2.CX P w) 4 Z.f_Lrow Z.d_Lrow ["_law_pen_here", "_law_height_here", "_law_many", "_law_heads"] (sp_Lrow Z) := by
  refine FnOk.mono (T.F_Lrow.okX (k := 3) sc_Lrow (fun vs H Q E h => ?_) (fun cdv A outer s H vs Q E hr h => ?_)) (by decide)
  · obtain ⟨a0, a1, a2, a3, rfl, _⟩ := h; rfl
  · obtain ⟨a0, a1, a2, a3, rfl, h⟩ := h
    have tk : Takes (cxOf (L2.CX P w) P w Z.K Z.mg base nm_Lrow "_law_row" (defScope st_Lrow) Z.f_Lrow cdv A outer s H E) (fun cls d _ H => E cls d H) := takes_of rfl rfl rfl rfl
    have po : PassesOwn (model P w) (cxOf (L2.CX P w) P w Z.K Z.mg base nm_Lrow "_law_row" (defScope st_Lrow) Z.f_Lrow cdv A outer s H E).A (cxOf (L2.CX P w) P w Z.K Z.mg base nm_Lrow "_law_row" (defScope st_Lrow) Z.f_Lrow cdv A outer s H E).env (cxOf (L2.CX P w) P w Z.K Z.mg base nm_Lrow "_law_row" (defScope st_Lrow) Z.f_Lrow cdv A outer s H E).xe := passes_of rfl
    refine ⟨t_Lrow Z (fun cls d _ H => E cls d H), ?_, rd_Lrow T h⟩
    exact (pss_cons (ps_set (i := 4) sc_Lrow.nd rfl (Or.inl rfl) (pe_ix ix_seq (pe_lst (pa_cons pe_int (pa_cons pe_int (pa_cons pe_int (pa_cons pe_int (pa_cons pe_int (pa_cons pe_int (pa_cons pe_int (pa_cons pe_int (pa_cons pe_int (pa_cons pe_int (pa_cons pe_int (pa_cons pe_int (pa_cons pe_int (pa_cons pe_int (pa_cons pe_int (pa_cons pe_int (pa_cons pe_int (pa_cons pe_int (pa_cons pe_int (pa_cons pe_int pa_nil))))))))))))))))))))) (pe_callS G_Ltake (hr.mono (by decide)) rfl T.m_Ltake T.k_Ltake T.b_Ltake (fun σ => passAt tk σ) (pa_cons (pv 0) (pa_cons pe_int pa_nil))) (fun _ _ => rfl)))
      (pss_cons (ps_set (i := 5) sc_Lrow.nd rfl (Or.inl rfl) pe_int)
      (C8.pss_cut (ps_if (pt_cmpR (op_eqU (hr.units)) (pv 4) pe_int (nomark _)) (pss_one (ps_set (i := 5) sc_Lrow.nd rfl (Or.inl rfl) (pe_callS G_Lnumber (hr.mono (by decide)) rfl T.m_Lnumber T.k_Lnumber T.b_Lnumber (fun σ => passAt tk σ) (pa_cons (pv 0) pa_nil)))) pss_nil)
      (C8.pss_cut (ps_if (pt_cmpR op_in_seq (pv 4) (pe_tup (pa_cons pe_int (pa_cons pe_int pa_nil))) (by rfl)) (pss_one (ps_set (i := 5) sc_Lrow.nd rfl (Or.inl rfl) (pe_callS G_Ltake (hr.mono (by decide)) rfl T.m_Ltake T.k_Ltake T.b_Ltake (fun σ => passAt tk σ) (pa_cons (pv 0) (pa_cons (pe_ix ix_seq (pe_lst (pa_cons pe_int (pa_cons pe_int (pa_cons pe_int pa_nil)))) (pe_callS G_Ltake (hr.mono (by decide)) rfl T.m_Ltake T.k_Ltake T.b_Ltake (fun σ => passAt tk σ) (pa_cons (pv 0) (pa_cons pe_int pa_nil))) (fun _ _ => rfl)) pa_nil))))) pss_nil)
      (C8.pss_cut (ps_if (pt_cmpR op_in_seq (pv 4) (pe_tup (pa_cons pe_int (pa_cons pe_int pa_nil))) (by rfl)) (pss_one (ps_set (i := 5) sc_Lrow.nd rfl (Or.inl rfl) (pe_callS G_Ltake (hr.mono (by decide)) rfl T.m_Ltake T.k_Ltake T.b_Ltake (fun σ => passAt tk σ) (pa_cons (pv 0) (pa_cons (pv 2) pa_nil))))) pss_nil)
      (C8.pss_cut (ps_if (pt_cmpR (op_eqU (hr.units)) (pv 4) pe_int (nomark _)) (pss_one (ps_set (i := 5) sc_Lrow.nd rfl (Or.inl rfl) (pe_callS G_Ltake (hr.mono (by decide)) rfl T.m_Ltake T.k_Ltake T.b_Ltake (fun σ => passAt tk σ) (pa_cons (pv 0) (pa_cons (pe_callB call_len' (by rfl) T.n_len (by decide +kernel) (pa_cons (pv 3) pa_nil)) pa_nil))))) pss_nil)
      (C8.pss_cut (ps_if (pt_cmpR (op_eqU (hr.units)) (pv 4) pe_int (nomark _)) (pss_one (ps_set (i := 5) sc_Lrow.nd rfl (Or.inl rfl) (pe_op op_addU pe_int (pe_callS G_Ltake (hr.mono (by decide)) rfl T.m_Ltake T.k_Ltake T.b_Ltake (fun σ => passAt tk σ) (pa_cons (pv 0) (pa_cons pe_int pa_nil)))))) pss_nil)
      (C8.pss_cut (ps_if (pt_cmpR (op_eqU (hr.units)) (pv 4) pe_int (nomark _)) (pss_one (ps_set (i := 5) sc_Lrow.nd rfl (Or.inl rfl) (pe_ix ix_seq (pe_lst (pa_cons pe_int (pa_cons pe_int (pa_cons (pe_op op_addU pe_int (pe_callS G_Ltake (hr.mono (by decide)) rfl T.m_Ltake T.k_Ltake T.b_Ltake (fun σ => passAt tk σ) (pa_cons (pv 0) (pa_cons pe_int pa_nil)))) pa_nil)))) (pe_callS G_Ltake (hr.mono (by decide)) rfl T.m_Ltake T.k_Ltake T.b_Ltake (fun σ => passAt tk σ) (pa_cons (pv 0) (pa_cons pe_int pa_nil))) (fun _ _ => rfl)))) pss_nil)
      (pss_cons (ps_if (PW.pt (pw_and (pt_cmpR op_lt (pv 1) (pe_callS G_Lneeds (hr.mono (by decide)) rfl T.m_Lneeds T.k_Lneeds T.b_Lneeds (fun σ => passAt tk σ) (pa_cons (pv 4) (pa_cons (pv 5) (pa_cons (pv 3) pa_nil)))) (nomark _)) (pw_and1 (pt_cmpR op_gt (pe_callS G_Ltake (hr.mono (by decide)) rfl T.m_Ltake T.k_Ltake T.b_Ltake (fun σ => passAt tk σ) (pa_cons (pv 0) (pa_cons pe_int pa_nil))) pe_int (nomark _))))) (pss_one (ps_ret (pe_tup (pa_cons pe_int (pa_cons (pe_callS G_Lnumber (hr.mono (by decide)) rfl T.m_Lnumber T.k_Lnumber T.b_Lnumber (fun σ => passAt tk σ) (pa_cons (pv 0) pa_nil)) pa_nil))))) pss_nil)
      (pss_one (ps_ret (pe_tup (pa_cons (pv 4) (pa_cons (pv 5) pa_nil))))))))))))))

theorem sc_Lheight : FnScope nm_Lheight ["_law_op", "_law_number_here", "_law_heads", "_law_height_here"] (defScope st_Lheight) := ⟨rfl, rfl, rfl, by decide +kernel, rfl, by decide +kernel, by decide +kernel⟩
theorem ok_Lheight {P : Program} {w : World} {base : Heap} {Z : Adr} (T : Top Z) (G_Lneeds : FnOk P w Z.K Z.mg base (L2.CX P w) 1 Z.f_Lneeds Z.d_Lneeds ["_law_op", "_law_number_here", "_law_heads"] (sp_Lneeds Z)) : FnOk P w Z.K Z.mg base (L2.CX P w) 2 Z.f_Lheight Z.d_Lheight ["_law_op", "_law_number_here", "_law_heads", "_law_height_here"] (sp_Lheight Z) := by
  refine FnOk.mono (T.F_Lheight.okX (k := 1) sc_Lheight (fun vs H Q E h => ?_) (fun cdv A outer s H vs Q E hr h => ?_)) (by decide)
  · obtain ⟨a0, a1, a2, a3, rfl, _⟩ := h; rfl
  · obtain ⟨a0, a1, a2, a3, rfl, h⟩ := h
    have tk : Takes (cxOf (L2.CX P w) P w Z.K Z.mg base nm_Lheight "_law_height" (defScope st_Lheight) Z.f_Lheight cdv A outer s H E) (fun cls d _ H => E cls d H) := takes_of rfl rfl rfl rfl
    have po : PassesOwn (model P w) (cxOf (L2.CX P w) P w Z.K Z.mg base nm_Lheight "_law_height" (defScope st_Lheight) Z.f_Lheight cdv A outer s H E).A (cxOf (L2.CX P w) P w Z.K Z.mg base nm_Lheight "_law_height" (defScope st_Lheight) Z.f_Lheight cdv A outer s H E).env (cxOf (L2.CX P w) P w Z.K Z.mg base nm_Lheight "_law_height" (defScope st_Lheight) Z.f_Lheight cdv A outer s H E).xe := passes_of rfl
    refine ⟨t_Lheight Z (fun cls d _ H => E cls d H), ?_, rd_Lheight T h⟩
    exact (pss_cons (ps_if (pt_cmpR op_in_seq (pv 0) (pe_tup (pa_cons pe_int (pa_cons pe_int (pa_cons pe_int pa_nil)))) (by rfl)) (pss_one (ps_ret pe_int)) pss_nil)
      (pss_cons (ps_set (i := 4) sc_Lheight.nd rfl (Or.inl rfl) (pe_callB (call_max' rfl) (by rfl) T.n_max (by decide +kernel) (pa_cons pe_int (pa_cons (pe_op op_sub (pv 3) (pe_callS G_Lneeds (hr.mono (by decide)) rfl T.m_Lneeds T.k_Lneeds T.b_Lneeds (fun σ => passAt tk σ) (pa_cons (pv 0) (pa_cons (pv 1) (pa_cons (pv 2) pa_nil))))) pa_nil))))
      (pss_one (ps_ret (pe_op op_addU (pv 4) (pe_callTy call_int' (by rfl) T.n_int (by decide +kernel) (pa_cons (pe_cmpR op_in_seq (pv 0) (pe_tup (pa_cons pe_int (pa_cons pe_int (pa_cons pe_int (pa_cons pe_int (pa_cons pe_int pa_nil)))))) (by rfl)) pa_nil)))))))

theorem sc_Lcode : FnScope nm_Lcode ["_law_pen_here"] (defScope st_Lcode) := ⟨rfl, rfl, rfl, by decide +kernel, rfl, by decide +kernel, by decide +kernel⟩
theorem ok_Lcode {P : Program} {w : World} {base : Heap} {Z : Adr} (T : Top Z) (G_Ltake : FnOk P w Z.K Z.mg base (L2.CX P w) 2 Z.f_Ltake Z.d_Ltake ["_law_pen_here", "_law_many"] (sp_Ltake Z)) (G_Lrow : FnOk P w Z.K Z.mg base (L2.CX P w) 4 Z.f_Lrow Z.d_Lrow ["_law_pen_here", "_law_height_here", "_law_many", "_law_heads"] (sp_Lrow Z)) (G_Lheight : FnOk P w Z.K Z.mg base (L2.CX P w) 2 Z.f_Lheight Z.d_Lheight ["_law_op", "_law_number_here", "_law_heads", "_law_height_here"] (sp_Lheight Z)) : FnOk P w Z.K Z.mg base (L2.CX P w) 5 Z.f_Lcode Z.d_Lcode ["_law_pen_here"] (sp_Lcode Z) := by
  refine FnOk.mono (T.F_Lcode.okX (k := 4) sc_Lcode (fun vs H Q E h => ?_) (fun cdv A outer s H vs Q E hr h => ?_)) (by decide)
  · obtain ⟨a0, rfl, _⟩ := h; rfl
  · obtain ⟨a0, rfl, h⟩ := h
    have tk : Takes (cxOf (L2.CX P w) P w Z.K Z.mg base nm_Lcode "_law_code" (defScope st_Lcode) Z.f_Lcode cdv A outer s H E) (fun cls d _ H => E cls d H) := takes_of rfl rfl rfl rfl
    have po : PassesOwn (model P w) (cxOf (L2.CX P w) P w Z.K Z.mg base nm_Lcode "_law_code" (defScope st_Lcode) Z.f_Lcode cdv A outer s H E).A (cxOf (L2.CX P w) P w Z.K Z.mg base nm_Lcode "_law_code" (defScope st_Lcode) Z.f_Lcode cdv A outer s H E).env (cxOf (L2.CX P w) P w Z.K Z.mg base nm_Lcode "_law_code" (defScope st_Lcode) Z.f_Lcode cdv A outer s H E).xe := passes_of rfl
    refine ⟨t_Lcode Z (fun cls d _ H => E cls d H), ?_, rd_Lcode T h⟩
    exact (pss_cons (ps_set (i := 1) sc_Lcode.nd rfl (Or.inl rfl) (pe_op op_addU pe_int (pe_callS G_Ltake (hr.mono (by decide)) rfl T.m_Ltake T.k_Ltake T.b_Ltake (fun σ => passAt tk σ) (pa_cons (pv 0) (pa_cons pe_int pa_nil)))))
      (pss_cons (ps_set (i := 2) sc_Lcode.nd rfl (Or.inl rfl) (pe_lst pa_nil))
      (pss_cons (ps_for po rfl (pi_range1 rfl T.n_range (pa_cons (pe_ix ix_seq (pe_lst (pa_cons pe_int (pa_cons pe_int (pa_cons pe_int (pa_cons (pe_op op_addU pe_int (pe_callS G_Ltake (hr.mono (by decide)) rfl T.m_Ltake T.k_Ltake T.b_Ltake (fun σ => passAt tk σ) (pa_cons (pv 0) (pa_cons pe_int pa_nil)))) pa_nil))))) (pe_callS G_Ltake (hr.mono (by decide)) rfl T.m_Ltake T.k_Ltake T.b_Ltake (fun σ => passAt tk σ) (pa_cons (pv 0) (pa_cons pe_int pa_nil))) (fun _ _ => rfl)) pa_nil)) (pg_name (i := 3) sc_Lcode.nd rfl (Or.inl rfl)) (pss_cons (ps_set (i := 4) sc_Lcode.nd rfl (Or.inl rfl) (pe_op op_ml (pe_callS G_Ltake (hr.mono (by decide)) rfl T.m_Ltake T.k_Ltake T.b_Ltake (fun σ => passAt tk σ) (pa_cons (pv 0) (pa_cons pe_int pa_nil))) (pe_callTy call_int' (by rfl) T.n_int (by decide +kernel) (pa_cons (pe_cmpR op_gt (pv 3) pe_int (nomark _)) pa_nil))))
      (pss_one (ps_expr (pe_bm PySem.F.plainAttrs_list PySem.F.slot_list_append PySem.F.type_list_append mt_append (pv 2) (pa_cons (pe_tup (pa_cons pe_int (pa_cons (pv 4) (pa_cons (pe_op op_addU (pv 4) (pe_callS G_Ltake (hr.mono (by decide)) rfl T.m_Ltake T.k_Ltake T.b_Ltake (fun σ => passAt tk σ) (pa_cons (pv 0) (pa_cons (pe_ix ix_seq (pe_lst (pa_cons pe_int (pa_cons (pe_op op_sub pe_int (pv 4)) pa_nil))) (pe_callS G_Ltake (hr.mono (by decide)) rfl T.m_Ltake T.k_Ltake T.b_Ltake (fun σ => passAt tk σ) (pa_cons (pv 0) (pa_cons pe_int pa_nil))) (fun _ _ => rfl)) pa_nil)))) pa_nil)))) pa_nil))))))
      (pss_cons (ps_set (i := 5) sc_Lcode.nd rfl (Or.inl rfl) (pe_lst pa_nil))
      (pss_cons (ps_set (i := 6) sc_Lcode.nd rfl (Or.inl rfl) (pe_lst pa_nil))
      (pss_cons (ps_set (i := 7) sc_Lcode.nd rfl (Or.inl rfl) pe_int)
      (pss_cons (ps_for po rfl (pi_range1 rfl T.n_range (pa_cons (pv 1) pa_nil)) (pg_name (i := 3) sc_Lcode.nd rfl (Or.inl rfl)) (C8.pss_cut (ps_if (pt_cmpR (op_eqU (hr.units)) (pv 7) pe_int (nomark _)) (pss_one (ps_expr (pe_bm PySem.F.plainAttrs_list PySem.F.slot_list_append PySem.F.type_list_append mt_append (pv 6) (pa_cons (pv 3) pa_nil)))) pss_nil)
      (pss_cons (ps_expr (pe_bm PySem.F.plainAttrs_list PySem.F.slot_list_append PySem.F.type_list_append mt_append (pv 5) (pa_cons (pe_callS G_Lrow (hr.mono (by decide)) rfl T.m_Lrow T.k_Lrow T.b_Lrow (fun σ => passAt tk σ) (pa_cons (pv 0) (pa_cons (pv 7) (pa_cons (pv 1) (pa_cons (pv 2) pa_nil))))) pa_nil)))
      (pss_one (ps_set (i := 7) sc_Lcode.nd rfl (Or.inl rfl) (pe_callS G_Lheight (hr.mono (by decide)) rfl T.m_Lheight T.k_Lheight T.b_Lheight (fun σ => passAt tk σ) (pa_cons (pe_ix ix_seq (pe_ix ix_seq (pv 5) (pv 3) (fun _ _ => rfl)) pe_int (fun _ _ => rfl)) (pa_cons (pe_ix ix_seq (pe_ix ix_seq (pv 5) (pv 3) (fun _ _ => rfl)) pe_int (fun _ _ => rfl)) (pa_cons (pv 2) (pa_cons (pv 7) pa_nil))))))))))
      (pss_cons (ps_for po rfl (pi_range1 rfl T.n_range (pa_cons (pe_callB call_len' (by rfl) T.n_len (by decide +kernel) (pa_cons (pv 2) pa_nil)) pa_nil)) (pg_name (i := 3) sc_Lcode.nd rfl (Or.inl rfl)) (pss_cons (ps_set (i := 8) sc_Lcode.nd rfl (Or.inl rfl) (pe_ix ix_seq (pv 6) (pe_callS G_Ltake (hr.mono (by decide)) rfl T.m_Ltake T.k_Ltake T.b_Ltake (fun σ => passAt tk σ) (pa_cons (pv 0) (pa_cons (pe_callB call_len' (by rfl) T.n_len (by decide +kernel) (pa_cons (pv 6) pa_nil)) pa_nil))) (fun _ _ => rfl)))
      (C8.pss_cut (ps_if (PW.pt (pw_and (pt_cmpR (op_eqU (hr.units)) (pv 3) pe_int (nomark _)) (pw_and1 (pt_cmpR op_gt (pe_callS G_Ltake (hr.mono (by decide)) rfl T.m_Ltake T.k_Ltake T.b_Ltake (fun σ => passAt tk σ) (pa_cons (pv 0) (pa_cons pe_int pa_nil))) pe_int (nomark _))))) (pss_one (ps_set (i := 8) sc_Lcode.nd rfl (Or.inl rfl) pe_int)) pss_nil)
      (pss_one (ps_asg (pe_tup (pa_cons (pv 8) (pa_cons (pe_ix ix_seq (pe_ix ix_seq (pv 2) (pv 3) (fun _ _ => rfl)) pe_int (fun _ _ => rfl)) (pa_cons (pe_ix ix_seq (pe_ix ix_seq (pv 2) (pv 3) (fun _ _ => rfl)) pe_int (fun _ _ => rfl)) pa_nil)))) (pg_sub (pv 2) (pv 3) set_list))))))
      (pss_one (ps_ret (pe_tup (pa_cons (pv 2) (pa_cons (pv 5) pa_nil)))))))))))))

theorem sc_Llist : FnScope nm_Llist ["_law_heads", "_law_rows"] (defScope st_Llist) := ⟨rfl, rfl, rfl, by decide +kernel, rfl, by decide +kernel, by decide +kernel⟩
theorem ok_Llist {P : Program} {w : World} {base : Heap} {Z : Adr} (T : Top Z)  : FnOk P w Z.K Z.mg base (L2.CX P w) 1 Z.f_Llist Z.d_Llist ["_law_heads", "_law_rows"] (sp_Llist Z) := by
  refine FnOk.mono (T.F_Llist.okX (k := 0) sc_Llist (fun vs H Q E h => ?_) (fun cdv A outer s H vs Q E hr h => ?_)) (by decide)
  · obtain ⟨a0, a1, rfl, _⟩ := h; rfl
  · obtain ⟨a0, a1, rfl, h⟩ := h
    have tk : Takes (cxOf (L2.CX P w) P w Z.K Z.mg base nm_Llist "_law_list" (defScope st_Llist) Z.f_Llist cdv A outer s H E) (fun cls d _ H => E cls d H) := takes_of rfl rfl rfl rfl
    have po : PassesOwn (model P w) (cxOf (L2.CX P w) P w Z.K Z.mg base nm_Llist "_law_list" (defScope st_Llist) Z.f_Llist cdv A outer s H E).A (cxOf (L2.CX P w) P w Z.K Z.mg base nm_Llist "_law_list" (defScope st_Llist) Z.f_Llist cdv A outer s H E).env (cxOf (L2.CX P w) P w Z.K Z.mg base nm_Llist "_law_list" (defScope st_Llist) Z.f_Llist cdv A outer s H E).xe := passes_of rfl
    refine ⟨t_Llist Z (fun cls d _ H => E cls d H), ?_, rd_Llist T h⟩
    exact (pss_cons (ps_set (i := 2) sc_Llist.nd rfl (Or.inl rfl) (pe_lst (pa_cons (pe_callB call_len' (by rfl) T.n_len (by decide +kernel) (pa_cons (pv 0) pa_nil)) pa_nil)))
      (pss_cons (ps_for po rfl (pi_list (pv 0)) (pg_name (i := 3) sc_Llist.nd rfl (Or.inl rfl)) (pss_one (ps_set (i := 2) sc_Llist.nd rfl (Or.inl rfl) (pe_op op_addU (pv 2) (pe_callTy call_list' (by rfl) T.n_list (by decide +kernel) (pa_cons (pv 3) pa_nil))))))
      (pss_cons (ps_for po rfl (pi_list (pv 1)) (pg_name (i := 4) sc_Llist.nd rfl (Or.inl rfl)) (pss_one (ps_set (i := 2) sc_Llist.nd rfl (Or.inl rfl) (pe_op op_addU (pv 2) (pe_callTy call_list' (by rfl) T.n_list (by decide +kernel) (pa_cons (pv 4) pa_nil))))))
      (pss_one (ps_ret (pv 2))))))

theorem sc_Ltuples : FnScope nm_Ltuples ["_law_things", "_law_many"] (defScope st_Ltuples) := ⟨rfl, rfl, rfl, by decide +kernel, rfl, by decide +kernel, by decide +kernel⟩
theorem ok_Ltuples {P : Program} {w : World} {base : Heap} {Z : Adr} (T : Top Z)  : FnOk P w Z.K Z.mg base (L2.CX P w) 1 Z.f_Ltuples Z.d_Ltuples ["_law_things", "_law_many"] (sp_Ltuples Z) := by
  refine FnOk.mono (T.F_Ltuples.okX (k := 0) sc_Ltuples (fun vs H Q E h => ?_) (fun cdv A outer s H vs Q E hr h => ?_)) (by decide)
  · obtain ⟨a0, a1, rfl, _⟩ := h; rfl
  · obtain ⟨a0, a1, rfl, h⟩ := h
    have tk : Takes (cxOf (L2.CX P w) P w Z.K Z.mg base nm_Ltuples "_law_tuples" (defScope st_Ltuples) Z.f_Ltuples cdv A outer s H E) (fun cls d _ H => E cls d H) := takes_of rfl rfl rfl rfl
    have po : PassesOwn (model P w) (cxOf (L2.CX P w) P w Z.K Z.mg base nm_Ltuples "_law_tuples" (defScope st_Ltuples) Z.f_Ltuples cdv A outer s H E).A (cxOf (L2.CX P w) P w Z.K Z.mg base nm_Ltuples "_law_tuples" (defScope st_Ltuples) Z.f_Ltuples cdv A outer s H E).env (cxOf (L2.CX P w) P w Z.K Z.mg base nm_Ltuples "_law_tuples" (defScope st_Ltuples) Z.f_Ltuples cdv A outer s H E).xe := passes_of rfl
    refine ⟨t_Ltuples Z (fun cls d _ H => E cls d H), ?_, rd_Ltuples T h⟩
    exact (pss_cons (ps_if (pt_not (pt_val (pe_callB call_isi' (by rfl) T.n_isinstance (by decide +kernel) (pa_cons (pv 0) (pa_cons (pe_bltn (by rfl) T.n_list (by decide +kernel) rfl) pa_nil))))) (pss_one (ps_ret pe_bl)) pss_nil)
      (pss_one (ps_ret (pe_cmpR (op_eqU (hr.units)) (pe_callB call_len' (by rfl) T.n_len (by decide +kernel) (pa_cons (pe_lc (own := [(".0", 2), ("_law_thing", 3)]) (g := (gName 3)) (tt := (tOr (tNot (tB (tCB (rIsi2 Z.K) (tCons (tVar 3) (tCons (tC (.ty "tuple")) tNil))))) (tTest (tOp (rNeU Z.K) (tCB (rLen Z.K) (tCons (tVar 3) tNil)) (tVar 1))))) rfl sc_Ltuples.nd (pi_list (pv 0)) (blkOk_by (own := [(".0", 2), ("_law_thing", 3)]) (N := nm_Ltuples) (sc := defScope st_Ltuples) (by decide +kernel)) (fun _ _ _ _ _ => (pg_name (i := 3) sc_Ltuples.nd rfl (Or.inl rfl))) (fun _ _ _ _ _ => (pts_one (PW.pt (pw_or (pt_not (pt_val (pe_callB call_isi' (by rfl) T.n_isinstance (by decide +kernel) (pa_cons (pv 3) (pa_cons (pe_bltn (by rfl) T.n_tuple (by decide +kernel) rfl) pa_nil))))) (pw_or1 (pt_cmpR (op_neU (hr.units)) (pe_callB call_len' (by rfl) T.n_len (by decide +kernel) (pa_cons (pv 3) pa_nil)) (pv 1) (nomark _))))))) (fun _ _ _ _ _ => (pv 3))) pa_nil)) pe_int (nomark _)))))

theorem sc_law : FnScope nm_law ["_law_script"] (defScope st_law) := ⟨rfl, rfl, rfl, by decide +kernel, rfl, by decide +kernel, by decide +kernel⟩
theorem ok_law {P : Program} {w : World} {base : Heap} {Z : Adr} (T : Top Z) (G_Lpen : FnOk P w Z.K Z.mg base (L2.CX P w) 1 Z.f_Lpen Z.d_Lpen ["_law_script"] (sp_Lpen Z)) (G_Lcode : FnOk P w Z.K Z.mg base (L2.CX P w) 5 Z.f_Lcode Z.d_Lcode ["_law_pen_here"] (sp_Lcode Z)) (G_Llist : FnOk P w Z.K Z.mg base (L2.CX P w) 1 Z.f_Llist Z.d_Llist ["_law_heads", "_law_rows"] (sp_Llist Z)) (G_Ltake : FnOk P w Z.K Z.mg base (L2.CX P w) 2 Z.f_Ltake Z.d_Ltake ["_law_pen_here", "_law_many"] (sp_Ltake Z)) (G_code_of : FnOk P w Z.K Z.mg base (L2.CX P w) 3 Z.f_code_of Z.d_code_of ["heads", "rows"] (sp_code_of Z)) (G_is_code : FnOk P w Z.K Z.mg base (L2.CX P w) 4 Z.f_is_code Z.d_is_code ["thing"] (sp_is_code Z)) (G_heads_of : FnOk P w Z.K Z.mg base (L2.CX P w) 4 Z.f_heads_of Z.d_heads_of ["code"] (sp_heads_of Z)) (G_rows_of : FnOk P w Z.K Z.mg base (L2.CX P w) 4 Z.f_rows_of Z.d_rows_of ["code"] (sp_rows_of Z)) (G_Ltuples : FnOk P w Z.K Z.mg base (L2.CX P w) 1 Z.f_Ltuples Z.d_Ltuples ["_law_things", "_law_many"] (sp_Ltuples Z)) : FnOk P w Z.K Z.mg base (L2.CX P w) 6 Z.f_law Z.d_law ["_law_script"] (sp_law Z) := by
  refine FnOk.mono (T.F_law.okX (k := 5) sc_law (fun vs H Q E h => ?_) (fun cdv A outer s H vs Q E hr h => ?_)) (by decide)
  · obtain ⟨a0, rfl, _⟩ := h; rfl
  · obtain ⟨a0, rfl, h⟩ := h
    have tk : Takes (cxOf (L2.CX P w) P w Z.K Z.mg base nm_law "law" (defScope st_law) Z.f_law cdv A outer s H E) (fun cls d _ H => E cls d H) := takes_of rfl rfl rfl rfl
    have po : PassesOwn (model P w) (cxOf (L2.CX P w) P w Z.K Z.mg base nm_law "law" (defScope st_law) Z.f_law cdv A outer s H E).A (cxOf (L2.CX P w) P w Z.K Z.mg base nm_law "law" (defScope st_law) Z.f_law cdv A outer s H E).env (cxOf (L2.CX P w) P w Z.K Z.mg base nm_law "law" (defScope st_law) Z.f_law cdv A outer s H E).xe := passes_of rfl
    refine ⟨t_law Z (fun cls d _ H => E cls d H), ?_, rd_law T h⟩
    exact (pss_cons (ps_set (i := 1) sc_law.nd rfl (Or.inl rfl) (pe_callS G_Lpen (hr.mono (by decide)) rfl T.m_Lpen T.k_Lpen T.b_Lpen (fun σ => passAt tk σ) (pa_cons (pv 0) pa_nil)))
      (pss_cons (ps_asg (pe_callS G_Lcode (hr.mono (by decide)) rfl T.m_Lcode T.k_Lcode T.b_Lcode (fun σ => passAt tk σ) (pa_cons (pv 1) pa_nil)) (pg_un rfl (pgs_cons (pg_name (i := 2) sc_law.nd rfl (Or.inl rfl)) (pgs_cons (pg_name (i := 3) sc_law.nd rfl (Or.inl rfl)) pgs_nil))))
      (pss_cons (ps_set (i := 4) sc_law.nd rfl (Or.inl rfl) (pe_callS G_Llist (hr.mono (by decide)) rfl T.m_Llist T.k_Llist T.b_Llist (fun σ => passAt tk σ) (pa_cons (pv 2) (pa_cons (pv 3) pa_nil))))
      (pss_cons (ps_set (i := 5) sc_law.nd rfl (Or.inl rfl) (pe_lst (pa_cons (pe_callTy call_list' (by rfl) T.n_list (by decide +kernel) (pa_cons (pv 2) pa_nil)) (pa_cons (pe_callTy call_list' (by rfl) T.n_list (by decide +kernel) (pa_cons (pv 3) pa_nil)) pa_nil))))
      (pss_cons (ps_set (i := 6) sc_law.nd rfl (Or.inl rfl) (pe_callS G_Ltake (hr.mono (by decide)) rfl T.m_Ltake T.k_Ltake T.b_Ltake (fun σ => passAt tk σ) (pa_cons (pv 1) (pa_cons pe_int pa_nil))))
      (C8.pss_cut (ps_if (pt_cmpR op_gt (pv 6) pe_int (nomark _)) (pss_one (ps_set (i := 5) sc_law.nd rfl (Or.inl rfl) (pe_lst (pa_cons (pe_callTy call_tuple' (by rfl) T.n_tuple (by decide +kernel) (pa_cons (pv 2) pa_nil)) (pa_cons (pe_callTy call_tuple' (by rfl) T.n_tuple (by decide +kernel) (pa_cons (pv 3) pa_nil)) pa_nil))))) pss_nil)
      (C8.pss_cut (ps_if (pt_cmpR (op_eqU (hr.units)) (pe_op op_md (pv 6) pe_int) pe_int (nomark _)) (pss_one (ps_set (i := 5) sc_law.nd rfl (Or.inl rfl) (pe_lst (pa_cons (pe_lc (own := [(".0", 11), ("_law_head", 12)]) (g := (gName 12)) (tt := tYes) rfl sc_law.nd (pi_un (pe_ix ix_seq (pv 5) pe_int (fun _ _ => rfl))) (blkOk_by (own := [(".0", 11), ("_law_head", 12)]) (N := nm_law) (sc := defScope st_law) (by decide +kernel)) (fun _ _ _ _ _ => (pg_name (i := 12) sc_law.nd rfl (Or.inl rfl))) (fun _ _ _ _ _ => pts_nil) (fun _ _ _ _ _ => (pe_callTy call_list' (by rfl) T.n_list (by decide +kernel) (pa_cons (pv 12) pa_nil)))) (pa_cons (pe_callTy call_tuple' (by rfl) T.n_tuple (by decide +kernel) (pa_cons (pe_lc (own := [(".0", 11), ("_law_row_here", 13)]) (g := (gName 13)) (tt := tYes) rfl sc_law.nd (pi_un (pe_ix ix_seq (pv 5) pe_int (fun _ _ => rfl))) (blkOk_by (own := [(".0", 11), ("_law_row_here", 13)]) (N := nm_law) (sc := defScope st_law) (by decide +kernel)) (fun _ _ _ _ _ => (pg_name (i := 13) sc_law.nd rfl (Or.inl rfl))) (fun _ _ _ _ _ => pts_nil) (fun _ _ _ _ _ => (pe_callTy call_list' (by rfl) T.n_list (by decide +kernel) (pa_cons (pv 13) pa_nil)))) pa_nil)) pa_nil))))) pss_nil)
      (pss_cons (ps_for po rfl (pi_range1 rfl T.n_range (pa_cons pe_int pa_nil)) (pg_name (i := 7) sc_law.nd rfl (Or.inl rfl)) (pss_cons (ps_set (i := 8) sc_law.nd rfl (Or.inl rfl) (pe_callS G_code_of (hr.mono (by decide)) rfl T.m_code_of T.k_code_of T.b_code_of (fun σ => passAt tk σ) (pa_cons (pe_ix ix_seq (pv 5) pe_int (fun _ _ => rfl)) (pa_cons (pe_ix ix_seq (pv 5) pe_int (fun _ _ => rfl)) pa_nil))))
      (pss_cons (ps_if (PW.pt (pw_or (pt_not (pt_val (pe_callB call_isi' (by rfl) T.n_isinstance (by decide +kernel) (pa_cons (pv 8) (pa_cons (pe_bltn (by rfl) T.n_list (by decide +kernel) rfl) pa_nil))))) (pw_or (pt_cmpR (op_neU (hr.units)) (pv 8) (pv 4) (nomark _)) (pw_or1 (pt_cmpR op_notU (pe_callS G_is_code (hr.mono (by decide)) rfl T.m_is_code T.k_is_code T.b_is_code (fun σ => passAt tk σ) (pa_cons (pv 8) pa_nil)) pe_bl (nomark _)))))) (pss_one (ps_ret pe_bl)) pss_nil)
      (pss_cons (ps_set (i := 9) sc_law.nd rfl (Or.inl rfl) (pe_callS G_heads_of (hr.mono (by decide)) rfl T.m_heads_of T.k_heads_of T.b_heads_of (fun σ => passAt tk σ) (pa_cons (pv 8) pa_nil)))
      (pss_cons (ps_set (i := 10) sc_law.nd rfl (Or.inl rfl) (pe_callS G_rows_of (hr.mono (by decide)) rfl T.m_rows_of T.k_rows_of T.b_rows_of (fun σ => passAt tk σ) (pa_cons (pv 8) pa_nil)))
      (pss_cons (ps_if (PW.pt (pw_or (pt_not (pt_val (pe_callS G_Ltuples (hr.mono (by decide)) rfl T.m_Ltuples T.k_Ltuples T.b_Ltuples (fun σ => passAt tk σ) (pa_cons (pv 9) (pa_cons pe_int pa_nil))))) (pw_or1 (pt_not (pt_val (pe_callS G_Ltuples (hr.mono (by decide)) rfl T.m_Ltuples T.k_Ltuples T.b_Ltuples (fun σ => passAt tk σ) (pa_cons (pv 10) (pa_cons pe_int pa_nil)))))))) (pss_one (ps_ret pe_bl)) pss_nil)
      (pss_cons (ps_if (PW.pt (pw_or (pt_cmpR (op_neU (hr.units)) (pv 9) (pv 2) (nomark _)) (pw_or (pt_cmpR (op_neU (hr.units)) (pv 10) (pv 3) (nomark _)) (pw_or1 (pt_cmpR (op_neU (hr.units)) (pv 8) (pv 4) (nomark _)))))) (pss_one (ps_ret pe_bl)) pss_nil)
      (pss_cons (ps_expr (pe_bm0 PySem.F.plainAttrs_list PySem.F.slot_list_clear PySem.F.type_list_clear mt_clear (pv 9)))
      (pss_cons (ps_expr (pe_bm PySem.F.plainAttrs_list PySem.F.slot_list_append PySem.F.type_list_append mt_append (pv 10) (pa_cons (pe_tup (pa_cons pe_int (pa_cons pe_int pa_nil))) pa_nil)))
      (pss_cons (ps_if (PW.pt (pw_or (pt_cmpR (op_neU (hr.units)) (pe_callS G_heads_of (hr.mono (by decide)) rfl T.m_heads_of T.k_heads_of T.b_heads_of (fun σ => passAt tk σ) (pa_cons (pv 8) pa_nil)) (pv 2) (nomark _)) (pw_or1 (pt_cmpR (op_neU (hr.units)) (pe_callS G_rows_of (hr.mono (by decide)) rfl T.m_rows_of T.k_rows_of T.b_rows_of (fun σ => passAt tk σ) (pa_cons (pv 8) pa_nil)) (pv 3) (nomark _))))) (pss_one (ps_ret pe_bl)) pss_nil)
      (pss_one (ps_expr (pe_bm PySem.F.plainAttrs_list PySem.F.slot_list_append PySem.F.type_list_append mt_append (pv 8) (pa_cons pe_int pa_nil))))))))))))))
      (pss_one (ps_ret (pe_cmpR op_isU (pe_callS G_is_code (hr.mono (by decide)) rfl T.m_is_code T.k_is_code T.b_is_code (fun σ => passAt tk σ) (pa_cons (pe_op op_addU (pv 4) (pe_lst (pa_cons pe_int pa_nil))) pa_nil)) pe_bl (nomark _))))))))))))

def sp_goal (K : PySem.W.Frag) : Sp := fun vs H Q _ => ∃ (a : Addr) (ns : List Int), vs = [.ref a] ∧ Only H ∧ Scr K H a ns ∧ ns.length ≤ 63 ∧ ∀ H', Q (.bl true) H'
theorem goal_law (Z : Adr) {vs : List V} {H : Hp} {Q : VK} {E : XK} (h : sp_goal Z.K vs H Q E) : sp_law Z vs H Q E := by
  obtain ⟨a, ns, rfl, h⟩ := h
  exact ⟨_, rfl, a, ns, rfl, h⟩
/-! ### the top, and the law's own head -/
theorem all_mk {l : PySem.W.OpenLaw} {w : World} {K : PySem.W.Frag} {h : Heap} {mg : Str → Option Value} {fa : Addr} (X : K.In h) (G : h.Ns mainGlobals mg) (hfa : mg "law" = some (.ref fa))
    {tk_PUSH : Tok}
    {tk_GET : Tok}
    {tk_SET : Tok}
    {tk_DROP : Tok}
    {tk_JUMP : Tok}
    {tk_UNLESS : Tok}
    {tk_CALL : Tok}
    {tk_BACK : Tok}
    {tk_FAIL : Tok}
    {tk_BREATH : Tok}
    {tk_DO : Tok}
    {tk_PICK : Tok}
    {tk_MOST_FUNCTIONS : Tok}
    {tk_MOST_PARAMS : Tok}
    {tk_MOST_BOXES : Tok}
    {tk_FIRST_DONE : Tok}
    {tk_LAST_DONE : Tok}
    {tk_MOST_PICKED : Tok}
    {oc_is_whole kV_is_whole dc_is_whole pm_is_whole cd_is_whole ct_is_whole : Value} {od_is_whole an_is_whole : Option Addr} {sl_is_whole : Array (Option Value)} {f_is_whole : Addr}
    {oc_are_wholes kV_are_wholes dc_are_wholes pm_are_wholes cd_are_wholes ct_are_wholes : Value} {od_are_wholes an_are_wholes : Option Addr} {sl_are_wholes : Array (Option Value)} {f_are_wholes : Addr}
    {oc_fits_op kV_fits_op dc_fits_op pm_fits_op cd_fits_op ct_fits_op : Value} {od_fits_op an_fits_op : Option Addr} {sl_fits_op : Array (Option Value)} {f_fits_op : Addr}
    {oc_fits_head kV_fits_head dc_fits_head pm_fits_head cd_fits_head ct_fits_head : Value} {od_fits_head an_fits_head : Option Addr} {sl_fits_head : Array (Option Value)} {f_fits_head : Addr}
    {oc_make_code kV_make_code dc_make_code pm_make_code cd_make_code ct_make_code : Value} {od_make_code an_make_code : Option Addr} {sl_make_code : Array (Option Value)} {f_make_code : Addr}
    {oc_cut_up kV_cut_up dc_cut_up pm_cut_up cd_cut_up ct_cut_up : Value} {od_cut_up an_cut_up : Option Addr} {sl_cut_up : Array (Option Value)} {f_cut_up : Addr}
    {oc_parted_code kV_parted_code dc_parted_code pm_parted_code cd_parted_code ct_parted_code : Value} {od_parted_code an_parted_code : Option Addr} {sl_parted_code : Array (Option Value)} {f_parted_code : Addr}
    {oc_is_code kV_is_code dc_is_code pm_is_code cd_is_code ct_is_code : Value} {od_is_code an_is_code : Option Addr} {sl_is_code : Array (Option Value)} {f_is_code : Addr}
    {oc_heads_of kV_heads_of dc_heads_of pm_heads_of cd_heads_of ct_heads_of : Value} {od_heads_of an_heads_of : Option Addr} {sl_heads_of : Array (Option Value)} {f_heads_of : Addr}
    {oc_rows_of kV_rows_of dc_rows_of pm_rows_of cd_rows_of ct_rows_of : Value} {od_rows_of an_rows_of : Option Addr} {sl_rows_of : Array (Option Value)} {f_rows_of : Addr}
    {oc_code_of kV_code_of dc_code_of pm_code_of cd_code_of ct_code_of : Value} {od_code_of an_code_of : Option Addr} {sl_code_of : Array (Option Value)} {f_code_of : Addr}
    {oc_Lpen kV_Lpen dc_Lpen pm_Lpen cd_Lpen ct_Lpen : Value} {od_Lpen an_Lpen : Option Addr} {sl_Lpen : Array (Option Value)} {f_Lpen : Addr}
    {oc_Lmixed kV_Lmixed dc_Lmixed pm_Lmixed cd_Lmixed ct_Lmixed : Value} {od_Lmixed an_Lmixed : Option Addr} {sl_Lmixed : Array (Option Value)} {f_Lmixed : Addr}
    {oc_Ltake kV_Ltake dc_Ltake pm_Ltake cd_Ltake ct_Ltake : Value} {od_Ltake an_Ltake : Option Addr} {sl_Ltake : Array (Option Value)} {f_Ltake : Addr}
    {oc_Lnumber kV_Lnumber dc_Lnumber pm_Lnumber cd_Lnumber ct_Lnumber : Value} {od_Lnumber an_Lnumber : Option Addr} {sl_Lnumber : Array (Option Value)} {f_Lnumber : Addr}
    {oc_Lneeds kV_Lneeds dc_Lneeds pm_Lneeds cd_Lneeds ct_Lneeds : Value} {od_Lneeds an_Lneeds : Option Addr} {sl_Lneeds : Array (Option Value)} {f_Lneeds : Addr}
    {oc_Lrow kV_Lrow dc_Lrow pm_Lrow cd_Lrow ct_Lrow : Value} {od_Lrow an_Lrow : Option Addr} {sl_Lrow : Array (Option Value)} {f_Lrow : Addr}
    {oc_Lheight kV_Lheight dc_Lheight pm_Lheight cd_Lheight ct_Lheight : Value} {od_Lheight an_Lheight : Option Addr} {sl_Lheight : Array (Option Value)} {f_Lheight : Addr}
    {oc_Lcode kV_Lcode dc_Lcode pm_Lcode cd_Lcode ct_Lcode : Value} {od_Lcode an_Lcode : Option Addr} {sl_Lcode : Array (Option Value)} {f_Lcode : Addr}
    {oc_Llist kV_Llist dc_Llist pm_Llist cd_Llist ct_Llist : Value} {od_Llist an_Llist : Option Addr} {sl_Llist : Array (Option Value)} {f_Llist : Addr}
    {oc_Ltuples kV_Ltuples dc_Ltuples pm_Ltuples cd_Ltuples ct_Ltuples : Value} {od_Ltuples an_Ltuples : Option Addr} {sl_Ltuples : Array (Option Value)} {f_Ltuples : Addr}
    {oc_law kV_law dc_law pm_law cd_law ct_law : Value} {od_law an_law : Option Addr} {sl_law : Array (Option Value)} {f_law : Addr}
    {c_NoCode : Addr}
    (i_PUSH : PySem.W.nsIn K mainGlobals "PUSH" = some (some (.int 0 tk_PUSH)))
    (i_GET : PySem.W.nsIn K mainGlobals "GET" = some (some (.int 1 tk_GET)))
    (i_SET : PySem.W.nsIn K mainGlobals "SET" = some (some (.int 2 tk_SET)))
    (i_DROP : PySem.W.nsIn K mainGlobals "DROP" = some (some (.int 3 tk_DROP)))
    (i_JUMP : PySem.W.nsIn K mainGlobals "JUMP" = some (some (.int 4 tk_JUMP)))
    (i_UNLESS : PySem.W.nsIn K mainGlobals "UNLESS" = some (some (.int 5 tk_UNLESS)))
    (i_CALL : PySem.W.nsIn K mainGlobals "CALL" = some (some (.int 6 tk_CALL)))
    (i_BACK : PySem.W.nsIn K mainGlobals "BACK" = some (some (.int 7 tk_BACK)))
    (i_FAIL : PySem.W.nsIn K mainGlobals "FAIL" = some (some (.int 8 tk_FAIL)))
    (i_BREATH : PySem.W.nsIn K mainGlobals "BREATH" = some (some (.int 9 tk_BREATH)))
    (i_DO : PySem.W.nsIn K mainGlobals "DO" = some (some (.int 10 tk_DO)))
    (i_PICK : PySem.W.nsIn K mainGlobals "PICK" = some (some (.int 11 tk_PICK)))
    (i_MOST_FUNCTIONS : PySem.W.nsIn K mainGlobals "MOST_FUNCTIONS" = some (some (.int 16 tk_MOST_FUNCTIONS)))
    (i_MOST_PARAMS : PySem.W.nsIn K mainGlobals "MOST_PARAMS" = some (some (.int 4 tk_MOST_PARAMS)))
    (i_MOST_BOXES : PySem.W.nsIn K mainGlobals "MOST_BOXES" = some (some (.int 12 tk_MOST_BOXES)))
    (i_FIRST_DONE : PySem.W.nsIn K mainGlobals "FIRST_DONE" = some (some (.int 8 tk_FIRST_DONE)))
    (i_LAST_DONE : PySem.W.nsIn K mainGlobals "LAST_DONE" = some (some (.int 19 tk_LAST_DONE)))
    (i_MOST_PICKED : PySem.W.nsIn K mainGlobals "MOST_PICKED" = some (some (.int 12 tk_MOST_PICKED)))
    (z_all : PySem.W.nsIn K mainGlobals "all" = some none)
    (z_bool : PySem.W.nsIn K mainGlobals "bool" = some none)
    (z_int : PySem.W.nsIn K mainGlobals "int" = some none)
    (z_isinstance : PySem.W.nsIn K mainGlobals "isinstance" = some none)
    (z_len : PySem.W.nsIn K mainGlobals "len" = some none)
    (z_list : PySem.W.nsIn K mainGlobals "list" = some none)
    (z_max : PySem.W.nsIn K mainGlobals "max" = some none)
    (z_range : PySem.W.nsIn K mainGlobals "range" = some none)
    (z_tuple : PySem.W.nsIn K mainGlobals "tuple" = some none)
    (a_NoCode : PySem.W.nsIn K mainGlobals "NoCode" = some (some (.ref c_NoCode)))
    (oq_NoCode : PySem.W.excIn K c_NoCode [.type "ValueError", .type "Exception", .type "BaseException", .type "object"] "ValueError.__new__" = true)
    (kc_NoCode : PySem.W.keepIn K (.ref c_NoCode) = true)
    (eb_NoCode : PySem.W.subIn K (.ref c_NoCode) (.type "BaseException") = some true)
    (tt_NoCode : PySem.W.typeIn K (.ref c_NoCode) = some (.type "type"))
    (ic_NoCode : PySem.W.isClsIn K c_NoCode = true)
    (es_NoCode_NoCode : PySem.W.subIn K (.ref c_NoCode) (.ref c_NoCode) = some true)
    (a_is_whole : PySem.W.nsIn K mainGlobals "is_whole" = some (some (.ref f_is_whole)))
    (l_is_whole : K.lookup f_is_whole = some ⟨oc_is_whole, od_is_whole, .func (PySem.W.fnOf "is_whole" "is_whole" (defArgs st_is_whole) (defBody st_is_whole) (defScope st_is_whole) .none kV_is_whole dc_is_whole pm_is_whole an_is_whole cd_is_whole ct_is_whole), sl_is_whole⟩)
    (c_is_whole : PySem.W.codeIn K cd_is_whole "is_whole" = true)
    (k_is_whole : PySem.W.keepIn K (.ref f_is_whole) = true)
    (a_are_wholes : PySem.W.nsIn K mainGlobals "are_wholes" = some (some (.ref f_are_wholes)))
    (l_are_wholes : K.lookup f_are_wholes = some ⟨oc_are_wholes, od_are_wholes, .func (PySem.W.fnOf "are_wholes" "are_wholes" (defArgs st_are_wholes) (defBody st_are_wholes) (defScope st_are_wholes) .none kV_are_wholes dc_are_wholes pm_are_wholes an_are_wholes cd_are_wholes ct_are_wholes), sl_are_wholes⟩)
    (c_are_wholes : PySem.W.codeIn K cd_are_wholes "are_wholes" = true)
    (k_are_wholes : PySem.W.keepIn K (.ref f_are_wholes) = true)
    (a_fits_op : PySem.W.nsIn K mainGlobals "fits_op" = some (some (.ref f_fits_op)))
    (l_fits_op : K.lookup f_fits_op = some ⟨oc_fits_op, od_fits_op, .func (PySem.W.fnOf "fits_op" "fits_op" (defArgs st_fits_op) (defBody st_fits_op) (defScope st_fits_op) .none kV_fits_op dc_fits_op pm_fits_op an_fits_op cd_fits_op ct_fits_op), sl_fits_op⟩)
    (c_fits_op : PySem.W.codeIn K cd_fits_op "fits_op" = true)
    (k_fits_op : PySem.W.keepIn K (.ref f_fits_op) = true)
    (a_fits_head : PySem.W.nsIn K mainGlobals "fits_head" = some (some (.ref f_fits_head)))
    (l_fits_head : K.lookup f_fits_head = some ⟨oc_fits_head, od_fits_head, .func (PySem.W.fnOf "fits_head" "fits_head" (defArgs st_fits_head) (defBody st_fits_head) (defScope st_fits_head) .none kV_fits_head dc_fits_head pm_fits_head an_fits_head cd_fits_head ct_fits_head), sl_fits_head⟩)
    (c_fits_head : PySem.W.codeIn K cd_fits_head "fits_head" = true)
    (k_fits_head : PySem.W.keepIn K (.ref f_fits_head) = true)
    (a_make_code : PySem.W.nsIn K mainGlobals "make_code" = some (some (.ref f_make_code)))
    (l_make_code : K.lookup f_make_code = some ⟨oc_make_code, od_make_code, .func (PySem.W.fnOf "make_code" "make_code" (defArgs st_make_code) (defBody st_make_code) (defScope st_make_code) .none kV_make_code dc_make_code pm_make_code an_make_code cd_make_code ct_make_code), sl_make_code⟩)
    (c_make_code : PySem.W.codeIn K cd_make_code "make_code" = true)
    (k_make_code : PySem.W.keepIn K (.ref f_make_code) = true)
    (a_cut_up : PySem.W.nsIn K mainGlobals "cut_up" = some (some (.ref f_cut_up)))
    (l_cut_up : K.lookup f_cut_up = some ⟨oc_cut_up, od_cut_up, .func (PySem.W.fnOf "cut_up" "cut_up" (defArgs st_cut_up) (defBody st_cut_up) (defScope st_cut_up) .none kV_cut_up dc_cut_up pm_cut_up an_cut_up cd_cut_up ct_cut_up), sl_cut_up⟩)
    (c_cut_up : PySem.W.codeIn K cd_cut_up "cut_up" = true)
    (k_cut_up : PySem.W.keepIn K (.ref f_cut_up) = true)
    (a_parted_code : PySem.W.nsIn K mainGlobals "parted_code" = some (some (.ref f_parted_code)))
    (l_parted_code : K.lookup f_parted_code = some ⟨oc_parted_code, od_parted_code, .func (PySem.W.fnOf "parted_code" "parted_code" (defArgs st_parted_code) (defBody st_parted_code) (defScope st_parted_code) .none kV_parted_code dc_parted_code pm_parted_code an_parted_code cd_parted_code ct_parted_code), sl_parted_code⟩)
    (c_parted_code : PySem.W.codeIn K cd_parted_code "parted_code" = true)
    (k_parted_code : PySem.W.keepIn K (.ref f_parted_code) = true)
    (a_is_code : PySem.W.nsIn K mainGlobals "is_code" = some (some (.ref f_is_code)))
    (l_is_code : K.lookup f_is_code = some ⟨oc_is_code, od_is_code, .func (PySem.W.fnOf "is_code" "is_code" (defArgs st_is_code) (defBody st_is_code) (defScope st_is_code) .none kV_is_code dc_is_code pm_is_code an_is_code cd_is_code ct_is_code), sl_is_code⟩)
    (c_is_code : PySem.W.codeIn K cd_is_code "is_code" = true)
    (k_is_code : PySem.W.keepIn K (.ref f_is_code) = true)
    (a_heads_of : PySem.W.nsIn K mainGlobals "heads_of" = some (some (.ref f_heads_of)))
    (l_heads_of : K.lookup f_heads_of = some ⟨oc_heads_of, od_heads_of, .func (PySem.W.fnOf "heads_of" "heads_of" (defArgs st_heads_of) (defBody st_heads_of) (defScope st_heads_of) .none kV_heads_of dc_heads_of pm_heads_of an_heads_of cd_heads_of ct_heads_of), sl_heads_of⟩)
    (c_heads_of : PySem.W.codeIn K cd_heads_of "heads_of" = true)
    (k_heads_of : PySem.W.keepIn K (.ref f_heads_of) = true)
    (a_rows_of : PySem.W.nsIn K mainGlobals "rows_of" = some (some (.ref f_rows_of)))
    (l_rows_of : K.lookup f_rows_of = some ⟨oc_rows_of, od_rows_of, .func (PySem.W.fnOf "rows_of" "rows_of" (defArgs st_rows_of) (defBody st_rows_of) (defScope st_rows_of) .none kV_rows_of dc_rows_of pm_rows_of an_rows_of cd_rows_of ct_rows_of), sl_rows_of⟩)
    (c_rows_of : PySem.W.codeIn K cd_rows_of "rows_of" = true)
    (k_rows_of : PySem.W.keepIn K (.ref f_rows_of) = true)
    (a_code_of : PySem.W.nsIn K mainGlobals "code_of" = some (some (.ref f_code_of)))
    (l_code_of : K.lookup f_code_of = some ⟨oc_code_of, od_code_of, .func (PySem.W.fnOf "code_of" "code_of" (defArgs st_code_of) (defBody st_code_of) (defScope st_code_of) .none kV_code_of dc_code_of pm_code_of an_code_of cd_code_of ct_code_of), sl_code_of⟩)
    (c_code_of : PySem.W.codeIn K cd_code_of "code_of" = true)
    (k_code_of : PySem.W.keepIn K (.ref f_code_of) = true)
    (a_Lpen : PySem.W.nsIn K mainGlobals "_law_pen" = some (some (.ref f_Lpen)))
    (l_Lpen : K.lookup f_Lpen = some ⟨oc_Lpen, od_Lpen, .func (PySem.W.fnOf "_law_pen" "_law_pen" (defArgs st_Lpen) (defBody st_Lpen) (defScope st_Lpen) .none kV_Lpen dc_Lpen pm_Lpen an_Lpen cd_Lpen ct_Lpen), sl_Lpen⟩)
    (c_Lpen : PySem.W.codeIn K cd_Lpen "_law_pen" = true)
    (k_Lpen : PySem.W.keepIn K (.ref f_Lpen) = true)
    (a_Lmixed : PySem.W.nsIn K mainGlobals "_law_mixed" = some (some (.ref f_Lmixed)))
    (l_Lmixed : K.lookup f_Lmixed = some ⟨oc_Lmixed, od_Lmixed, .func (PySem.W.fnOf "_law_mixed" "_law_mixed" (defArgs st_Lmixed) (defBody st_Lmixed) (defScope st_Lmixed) .none kV_Lmixed dc_Lmixed pm_Lmixed an_Lmixed cd_Lmixed ct_Lmixed), sl_Lmixed⟩)
    (c_Lmixed : PySem.W.codeIn K cd_Lmixed "_law_mixed" = true)
    (k_Lmixed : PySem.W.keepIn K (.ref f_Lmixed) = true)
    (a_Ltake : PySem.W.nsIn K mainGlobals "_law_take" = some (some (.ref f_Ltake)))
    (l_Ltake : K.lookup f_Ltake = some ⟨oc_Ltake, od_Ltake, .func (PySem.W.fnOf "_law_take" "_law_take" (defArgs st_Ltake) (defBody st_Ltake) (defScope st_Ltake) .none kV_Ltake dc_Ltake pm_Ltake an_Ltake cd_Ltake ct_Ltake), sl_Ltake⟩)
    (c_Ltake : PySem.W.codeIn K cd_Ltake "_law_take" = true)
    (k_Ltake : PySem.W.keepIn K (.ref f_Ltake) = true)
    (a_Lnumber : PySem.W.nsIn K mainGlobals "_law_number" = some (some (.ref f_Lnumber)))
    (l_Lnumber : K.lookup f_Lnumber = some ⟨oc_Lnumber, od_Lnumber, .func (PySem.W.fnOf "_law_number" "_law_number" (defArgs st_Lnumber) (defBody st_Lnumber) (defScope st_Lnumber) .none kV_Lnumber dc_Lnumber pm_Lnumber an_Lnumber cd_Lnumber ct_Lnumber), sl_Lnumber⟩)
    (c_Lnumber : PySem.W.codeIn K cd_Lnumber "_law_number" = true)
    (k_Lnumber : PySem.W.keepIn K (.ref f_Lnumber) = true)
    (a_Lneeds : PySem.W.nsIn K mainGlobals "_law_needs" = some (some (.ref f_Lneeds)))
    (l_Lneeds : K.lookup f_Lneeds = some ⟨oc_Lneeds, od_Lneeds, .func (PySem.W.fnOf "_law_needs" "_law_needs" (defArgs st_Lneeds) (defBody st_Lneeds) (defScope st_Lneeds) .none kV_Lneeds dc_Lneeds pm_Lneeds an_Lneeds cd_Lneeds ct_Lneeds), sl_Lneeds⟩)
    (c_Lneeds : PySem.W.codeIn K cd_Lneeds "_law_needs" = true)
    (k_Lneeds : PySem.W.keepIn K (.ref f_Lneeds) = true)
    (a_Lrow : PySem.W.nsIn K mainGlobals "_law_row" = some (some (.ref f_Lrow)))
    (l_Lrow : K.lookup f_Lrow = some ⟨oc_Lrow, od_Lrow, .func (PySem.W.fnOf "_law_row" "_law_row" (defArgs st_Lrow) (defBody st_Lrow) (defScope st_Lrow) .none kV_Lrow dc_Lrow pm_Lrow an_Lrow cd_Lrow ct_Lrow), sl_Lrow⟩)
    (c_Lrow : PySem.W.codeIn K cd_Lrow "_law_row" = true)
    (k_Lrow : PySem.W.keepIn K (.ref f_Lrow) = true)
    (a_Lheight : PySem.W.nsIn K mainGlobals "_law_height" = some (some (.ref f_Lheight)))
    (l_Lheight : K.lookup f_Lheight = some ⟨oc_Lheight, od_Lheight, .func (PySem.W.fnOf "_law_height" "_law_height" (defArgs st_Lheight) (defBody st_Lheight) (defScope st_Lheight) .none kV_Lheight dc_Lheight pm_Lheight an_Lheight cd_Lheight ct_Lheight), sl_Lheight⟩)
    (c_Lheight : PySem.W.codeIn K cd_Lheight "_law_height" = true)
    (k_Lheight : PySem.W.keepIn K (.ref f_Lheight) = true)
    (a_Lcode : PySem.W.nsIn K mainGlobals "_law_code" = some (some (.ref f_Lcode)))
    (l_Lcode : K.lookup f_Lcode = some ⟨oc_Lcode, od_Lcode, .func (PySem.W.fnOf "_law_code" "_law_code" (defArgs st_Lcode) (defBody st_Lcode) (defScope st_Lcode) .none kV_Lcode dc_Lcode pm_Lcode an_Lcode cd_Lcode ct_Lcode), sl_Lcode⟩)
    (c_Lcode : PySem.W.codeIn K cd_Lcode "_law_code" = true)
    (k_Lcode : PySem.W.keepIn K (.ref f_Lcode) = true)
    (a_Llist : PySem.W.nsIn K mainGlobals "_law_list" = some (some (.ref f_Llist)))
    (l_Llist : K.lookup f_Llist = some ⟨oc_Llist, od_Llist, .func (PySem.W.fnOf "_law_list" "_law_list" (defArgs st_Llist) (defBody st_Llist) (defScope st_Llist) .none kV_Llist dc_Llist pm_Llist an_Llist cd_Llist ct_Llist), sl_Llist⟩)
    (c_Llist : PySem.W.codeIn K cd_Llist "_law_list" = true)
    (k_Llist : PySem.W.keepIn K (.ref f_Llist) = true)
    (a_Ltuples : PySem.W.nsIn K mainGlobals "_law_tuples" = some (some (.ref f_Ltuples)))
    (l_Ltuples : K.lookup f_Ltuples = some ⟨oc_Ltuples, od_Ltuples, .func (PySem.W.fnOf "_law_tuples" "_law_tuples" (defArgs st_Ltuples) (defBody st_Ltuples) (defScope st_Ltuples) .none kV_Ltuples dc_Ltuples pm_Ltuples an_Ltuples cd_Ltuples ct_Ltuples), sl_Ltuples⟩)
    (c_Ltuples : PySem.W.codeIn K cd_Ltuples "_law_tuples" = true)
    (k_Ltuples : PySem.W.keepIn K (.ref f_Ltuples) = true)
    (a_law : PySem.W.nsIn K mainGlobals "law" = some (some (.ref f_law)))
    (l_law : K.lookup f_law = some ⟨oc_law, od_law, .func (PySem.W.fnOf "law" "law" (defArgs st_law) (defBody st_law) (defScope st_law) .none kV_law dc_law pm_law an_law cd_law ct_law), sl_law⟩)
    (c_law : PySem.W.codeIn K cd_law "law" = true)
    (k_law : PySem.W.keepIn K (.ref f_law) = true) :
    ∃ fd : FuncData, (∀ (s : Shared) (v : Value), BindsTo s fd ⟨[v], []⟩ [("_law_script", v)]) ∧ ∀ base : Heap, K.In base → base.Ns mainGlobals mg → ∃ Z : Adr, Z.K = K ∧ FnOk l.prog w K mg base (L2.CX l.prog w) 6 fa fd ["_law_script"] (sp_law Z) := by
  have e := hfa.symm.trans (PySem.W.mg_of X G a_law)
  cases e
  let Z : Adr := {
      K := K
      mg := mg
      t_PUSH := tk_PUSH
      t_GET := tk_GET
      t_SET := tk_SET
      t_DROP := tk_DROP
      t_JUMP := tk_JUMP
      t_UNLESS := tk_UNLESS
      t_CALL := tk_CALL
      t_BACK := tk_BACK
      t_FAIL := tk_FAIL
      t_BREATH := tk_BREATH
      t_DO := tk_DO
      t_PICK := tk_PICK
      t_MOST_FUNCTIONS := tk_MOST_FUNCTIONS
      t_MOST_PARAMS := tk_MOST_PARAMS
      t_MOST_BOXES := tk_MOST_BOXES
      t_FIRST_DONE := tk_FIRST_DONE
      t_LAST_DONE := tk_LAST_DONE
      t_MOST_PICKED := tk_MOST_PICKED
      f_is_whole := f_is_whole
      d_is_whole := PySem.W.fnOf "is_whole" "is_whole" (defArgs st_is_whole) (defBody st_is_whole) (defScope st_is_whole) .none kV_is_whole dc_is_whole pm_is_whole an_is_whole cd_is_whole ct_is_whole
      f_are_wholes := f_are_wholes
      d_are_wholes := PySem.W.fnOf "are_wholes" "are_wholes" (defArgs st_are_wholes) (defBody st_are_wholes) (defScope st_are_wholes) .none kV_are_wholes dc_are_wholes pm_are_wholes an_are_wholes cd_are_wholes ct_are_wholes
      f_fits_op := f_fits_op
      d_fits_op := PySem.W.fnOf "fits_op" "fits_op" (defArgs st_fits_op) (defBody st_fits_op) (defScope st_fits_op) .none kV_fits_op dc_fits_op pm_fits_op an_fits_op cd_fits_op ct_fits_op
      f_fits_head := f_fits_head
      d_fits_head := PySem.W.fnOf "fits_head" "fits_head" (defArgs st_fits_head) (defBody st_fits_head) (defScope st_fits_head) .none kV_fits_head dc_fits_head pm_fits_head an_fits_head cd_fits_head ct_fits_head
      f_make_code := f_make_code
      d_make_code := PySem.W.fnOf "make_code" "make_code" (defArgs st_make_code) (defBody st_make_code) (defScope st_make_code) .none kV_make_code dc_make_code pm_make_code an_make_code cd_make_code ct_make_code
      f_cut_up := f_cut_up
      d_cut_up := PySem.W.fnOf "cut_up" "cut_up" (defArgs st_cut_up) (defBody st_cut_up) (defScope st_cut_up) .none kV_cut_up dc_cut_up pm_cut_up an_cut_up cd_cut_up ct_cut_up
      f_parted_code := f_parted_code
      d_parted_code := PySem.W.fnOf "parted_code" "parted_code" (defArgs st_parted_code) (defBody st_parted_code) (defScope st_parted_code) .none kV_parted_code dc_parted_code pm_parted_code an_parted_code cd_parted_code ct_parted_code
      f_is_code := f_is_code
      d_is_code := PySem.W.fnOf "is_code" "is_code" (defArgs st_is_code) (defBody st_is_code) (defScope st_is_code) .none kV_is_code dc_is_code pm_is_code an_is_code cd_is_code ct_is_code
      f_heads_of := f_heads_of
      d_heads_of := PySem.W.fnOf "heads_of" "heads_of" (defArgs st_heads_of) (defBody st_heads_of) (defScope st_heads_of) .none kV_heads_of dc_heads_of pm_heads_of an_heads_of cd_heads_of ct_heads_of
      f_rows_of := f_rows_of
      d_rows_of := PySem.W.fnOf "rows_of" "rows_of" (defArgs st_rows_of) (defBody st_rows_of) (defScope st_rows_of) .none kV_rows_of dc_rows_of pm_rows_of an_rows_of cd_rows_of ct_rows_of
      f_code_of := f_code_of
      d_code_of := PySem.W.fnOf "code_of" "code_of" (defArgs st_code_of) (defBody st_code_of) (defScope st_code_of) .none kV_code_of dc_code_of pm_code_of an_code_of cd_code_of ct_code_of
      f_Lpen := f_Lpen
      d_Lpen := PySem.W.fnOf "_law_pen" "_law_pen" (defArgs st_Lpen) (defBody st_Lpen) (defScope st_Lpen) .none kV_Lpen dc_Lpen pm_Lpen an_Lpen cd_Lpen ct_Lpen
      f_Lmixed := f_Lmixed
      d_Lmixed := PySem.W.fnOf "_law_mixed" "_law_mixed" (defArgs st_Lmixed) (defBody st_Lmixed) (defScope st_Lmixed) .none kV_Lmixed dc_Lmixed pm_Lmixed an_Lmixed cd_Lmixed ct_Lmixed
      f_Ltake := f_Ltake
      d_Ltake := PySem.W.fnOf "_law_take" "_law_take" (defArgs st_Ltake) (defBody st_Ltake) (defScope st_Ltake) .none kV_Ltake dc_Ltake pm_Ltake an_Ltake cd_Ltake ct_Ltake
      f_Lnumber := f_Lnumber
      d_Lnumber := PySem.W.fnOf "_law_number" "_law_number" (defArgs st_Lnumber) (defBody st_Lnumber) (defScope st_Lnumber) .none kV_Lnumber dc_Lnumber pm_Lnumber an_Lnumber cd_Lnumber ct_Lnumber
      f_Lneeds := f_Lneeds
      d_Lneeds := PySem.W.fnOf "_law_needs" "_law_needs" (defArgs st_Lneeds) (defBody st_Lneeds) (defScope st_Lneeds) .none kV_Lneeds dc_Lneeds pm_Lneeds an_Lneeds cd_Lneeds ct_Lneeds
      f_Lrow := f_Lrow
      d_Lrow := PySem.W.fnOf "_law_row" "_law_row" (defArgs st_Lrow) (defBody st_Lrow) (defScope st_Lrow) .none kV_Lrow dc_Lrow pm_Lrow an_Lrow cd_Lrow ct_Lrow
      f_Lheight := f_Lheight
      d_Lheight := PySem.W.fnOf "_law_height" "_law_height" (defArgs st_Lheight) (defBody st_Lheight) (defScope st_Lheight) .none kV_Lheight dc_Lheight pm_Lheight an_Lheight cd_Lheight ct_Lheight
      f_Lcode := f_Lcode
      d_Lcode := PySem.W.fnOf "_law_code" "_law_code" (defArgs st_Lcode) (defBody st_Lcode) (defScope st_Lcode) .none kV_Lcode dc_Lcode pm_Lcode an_Lcode cd_Lcode ct_Lcode
      f_Llist := f_Llist
      d_Llist := PySem.W.fnOf "_law_list" "_law_list" (defArgs st_Llist) (defBody st_Llist) (defScope st_Llist) .none kV_Llist dc_Llist pm_Llist an_Llist cd_Llist ct_Llist
      f_Ltuples := f_Ltuples
      d_Ltuples := PySem.W.fnOf "_law_tuples" "_law_tuples" (defArgs st_Ltuples) (defBody st_Ltuples) (defScope st_Ltuples) .none kV_Ltuples dc_Ltuples pm_Ltuples an_Ltuples cd_Ltuples ct_Ltuples
      f_law := fa
      d_law := PySem.W.fnOf "law" "law" (defArgs st_law) (defBody st_law) (defScope st_law) .none kV_law dc_law pm_law an_law cd_law ct_law
      c_NoCode := c_NoCode }
  have T : Top Z := {
      g_PUSH := PySem.W.mg_of X G i_PUSH
      g_GET := PySem.W.mg_of X G i_GET
      g_SET := PySem.W.mg_of X G i_SET
      g_DROP := PySem.W.mg_of X G i_DROP
      g_JUMP := PySem.W.mg_of X G i_JUMP
      g_UNLESS := PySem.W.mg_of X G i_UNLESS
      g_CALL := PySem.W.mg_of X G i_CALL
      g_BACK := PySem.W.mg_of X G i_BACK
      g_FAIL := PySem.W.mg_of X G i_FAIL
      g_BREATH := PySem.W.mg_of X G i_BREATH
      g_DO := PySem.W.mg_of X G i_DO
      g_PICK := PySem.W.mg_of X G i_PICK
      g_MOST_FUNCTIONS := PySem.W.mg_of X G i_MOST_FUNCTIONS
      g_MOST_PARAMS := PySem.W.mg_of X G i_MOST_PARAMS
      g_MOST_BOXES := PySem.W.mg_of X G i_MOST_BOXES
      g_FIRST_DONE := PySem.W.mg_of X G i_FIRST_DONE
      g_LAST_DONE := PySem.W.mg_of X G i_LAST_DONE
      g_MOST_PICKED := PySem.W.mg_of X G i_MOST_PICKED
      n_all := PySem.W.mg_none_of X G z_all
      n_bool := PySem.W.mg_none_of X G z_bool
      n_int := PySem.W.mg_none_of X G z_int
      n_isinstance := PySem.W.mg_none_of X G z_isinstance
      n_len := PySem.W.mg_none_of X G z_len
      n_list := PySem.W.mg_none_of X G z_list
      n_max := PySem.W.mg_none_of X G z_max
      n_range := PySem.W.mg_none_of X G z_range
      n_tuple := PySem.W.mg_none_of X G z_tuple
      m_is_whole := PySem.W.mg_of X G a_is_whole
      F_is_whole := fun_mk (st := st_is_whole) l_is_whole c_is_whole k_is_whole
      b_is_whole := (fun_mk (st := st_is_whole) l_is_whole c_is_whole k_is_whole).binds (ps := ["thing"]) fun _ _ _ _ _ _ us hl => match us, hl with | [_], _ => rfl
      m_are_wholes := PySem.W.mg_of X G a_are_wholes
      F_are_wholes := fun_mk (st := st_are_wholes) l_are_wholes c_are_wholes k_are_wholes
      b_are_wholes := (fun_mk (st := st_are_wholes) l_are_wholes c_are_wholes k_are_wholes).binds (ps := ["things", "many"]) fun _ _ _ _ _ _ us hl => match us, hl with | [_, _], _ => rfl
      m_fits_op := PySem.W.mg_of X G a_fits_op
      F_fits_op := fun_mk (st := st_fits_op) l_fits_op c_fits_op k_fits_op
      b_fits_op := (fun_mk (st := st_fits_op) l_fits_op c_fits_op k_fits_op).binds (ps := ["op", "number", "functions", "rows"]) fun _ _ _ _ _ _ us hl => match us, hl with | [_, _, _, _], _ => rfl
      m_fits_head := PySem.W.mg_of X G a_fits_head
      F_fits_head := fun_mk (st := st_fits_head) l_fits_head c_fits_head k_fits_head
      b_fits_head := (fun_mk (st := st_fits_head) l_fits_head c_fits_head k_fits_head).binds (ps := ["head", "at", "rows"]) fun _ _ _ _ _ _ us hl => match us, hl with | [_, _, _], _ => rfl
      m_make_code := PySem.W.mg_of X G a_make_code
      F_make_code := fun_mk (st := st_make_code) l_make_code c_make_code k_make_code
      b_make_code := (fun_mk (st := st_make_code) l_make_code c_make_code k_make_code).binds (ps := ["heads", "rows"]) fun _ _ _ _ _ _ us hl => match us, hl with | [_, _], _ => rfl
      m_cut_up := PySem.W.mg_of X G a_cut_up
      F_cut_up := fun_mk (st := st_cut_up) l_cut_up c_cut_up k_cut_up
      b_cut_up := (fun_mk (st := st_cut_up) l_cut_up c_cut_up k_cut_up).binds (ps := ["numbers", "size"]) fun _ _ _ _ _ _ us hl => match us, hl with | [_, _], _ => rfl
      m_parted_code := PySem.W.mg_of X G a_parted_code
      F_parted_code := fun_mk (st := st_parted_code) l_parted_code c_parted_code k_parted_code
      b_parted_code := (fun_mk (st := st_parted_code) l_parted_code c_parted_code k_parted_code).binds (ps := ["thing"]) fun _ _ _ _ _ _ us hl => match us, hl with | [_], _ => rfl
      m_is_code := PySem.W.mg_of X G a_is_code
      F_is_code := fun_mk (st := st_is_code) l_is_code c_is_code k_is_code
      b_is_code := (fun_mk (st := st_is_code) l_is_code c_is_code k_is_code).binds (ps := ["thing"]) fun _ _ _ _ _ _ us hl => match us, hl with | [_], _ => rfl
      m_heads_of := PySem.W.mg_of X G a_heads_of
      F_heads_of := fun_mk (st := st_heads_of) l_heads_of c_heads_of k_heads_of
      b_heads_of := (fun_mk (st := st_heads_of) l_heads_of c_heads_of k_heads_of).binds (ps := ["code"]) fun _ _ _ _ _ _ us hl => match us, hl with | [_], _ => rfl
      m_rows_of := PySem.W.mg_of X G a_rows_of
      F_rows_of := fun_mk (st := st_rows_of) l_rows_of c_rows_of k_rows_of
      b_rows_of := (fun_mk (st := st_rows_of) l_rows_of c_rows_of k_rows_of).binds (ps := ["code"]) fun _ _ _ _ _ _ us hl => match us, hl with | [_], _ => rfl
      m_code_of := PySem.W.mg_of X G a_code_of
      F_code_of := fun_mk (st := st_code_of) l_code_of c_code_of k_code_of
      b_code_of := (fun_mk (st := st_code_of) l_code_of c_code_of k_code_of).binds (ps := ["heads", "rows"]) fun _ _ _ _ _ _ us hl => match us, hl with | [_, _], _ => rfl
      m_Lpen := PySem.W.mg_of X G a_Lpen
      F_Lpen := fun_mk (st := st_Lpen) l_Lpen c_Lpen k_Lpen
      b_Lpen := (fun_mk (st := st_Lpen) l_Lpen c_Lpen k_Lpen).binds (ps := ["_law_script"]) fun _ _ _ _ _ _ us hl => match us, hl with | [_], _ => rfl
      m_Lmixed := PySem.W.mg_of X G a_Lmixed
      F_Lmixed := fun_mk (st := st_Lmixed) l_Lmixed c_Lmixed k_Lmixed
      b_Lmixed := (fun_mk (st := st_Lmixed) l_Lmixed c_Lmixed k_Lmixed).binds (ps := ["_law_cell", "_law_turn"]) fun _ _ _ _ _ _ us hl => match us, hl with | [_, _], _ => rfl
      m_Ltake := PySem.W.mg_of X G a_Ltake
      F_Ltake := fun_mk (st := st_Ltake) l_Ltake c_Ltake k_Ltake
      b_Ltake := (fun_mk (st := st_Ltake) l_Ltake c_Ltake k_Ltake).binds (ps := ["_law_pen_here", "_law_many"]) fun _ _ _ _ _ _ us hl => match us, hl with | [_, _], _ => rfl
      m_Lnumber := PySem.W.mg_of X G a_Lnumber
      F_Lnumber := fun_mk (st := st_Lnumber) l_Lnumber c_Lnumber k_Lnumber
      b_Lnumber := (fun_mk (st := st_Lnumber) l_Lnumber c_Lnumber k_Lnumber).binds (ps := ["_law_pen_here"]) fun _ _ _ _ _ _ us hl => match us, hl with | [_], _ => rfl
      m_Lneeds := PySem.W.mg_of X G a_Lneeds
      F_Lneeds := fun_mk (st := st_Lneeds) l_Lneeds c_Lneeds k_Lneeds
      b_Lneeds := (fun_mk (st := st_Lneeds) l_Lneeds c_Lneeds k_Lneeds).binds (ps := ["_law_op", "_law_number_here", "_law_heads"]) fun _ _ _ _ _ _ us hl => match us, hl with | [_, _, _], _ => rfl
      m_Lrow := PySem.W.mg_of X G a_Lrow
      F_Lrow := fun_mk (st := st_Lrow) l_Lrow c_Lrow k_Lrow
      b_Lrow := (fun_mk (st := st_Lrow) l_Lrow c_Lrow k_Lrow).binds (ps := ["_law_pen_here", "_law_height_here", "_law_many", "_law_heads"]) fun _ _ _ _ _ _ us hl => match us, hl with | [_, _, _, _], _ => rfl
      m_Lheight := PySem.W.mg_of X G a_Lheight
      F_Lheight := fun_mk (st := st_Lheight) l_Lheight c_Lheight k_Lheight
      b_Lheight := (fun_mk (st := st_Lheight) l_Lheight c_Lheight k_Lheight).binds (ps := ["_law_op", "_law_number_here", "_law_heads", "_law_height_here"]) fun _ _ _ _ _ _ us hl => match us, hl with | [_, _, _, _], _ => rfl
      m_Lcode := PySem.W.mg_of X G a_Lcode
      F_Lcode := fun_mk (st := st_Lcode) l_Lcode c_Lcode k_Lcode
      b_Lcode := (fun_mk (st := st_Lcode) l_Lcode c_Lcode k_Lcode).binds (ps := ["_law_pen_here"]) fun _ _ _ _ _ _ us hl => match us, hl with | [_], _ => rfl
      m_Llist := PySem.W.mg_of X G a_Llist
      F_Llist := fun_mk (st := st_Llist) l_Llist c_Llist k_Llist
      b_Llist := (fun_mk (st := st_Llist) l_Llist c_Llist k_Llist).binds (ps := ["_law_heads", "_law_rows"]) fun _ _ _ _ _ _ us hl => match us, hl with | [_, _], _ => rfl
      m_Ltuples := PySem.W.mg_of X G a_Ltuples
      F_Ltuples := fun_mk (st := st_Ltuples) l_Ltuples c_Ltuples k_Ltuples
      b_Ltuples := (fun_mk (st := st_Ltuples) l_Ltuples c_Ltuples k_Ltuples).binds (ps := ["_law_things", "_law_many"]) fun _ _ _ _ _ _ us hl => match us, hl with | [_, _], _ => rfl
      m_law := PySem.W.mg_of X G a_law
      F_law := fun_mk (st := st_law) l_law c_law k_law
      b_law := (fun_mk (st := st_law) l_law c_law k_law).binds (ps := ["_law_script"]) fun _ _ _ _ _ _ us hl => match us, hl with | [_], _ => rfl
      g_NoCode := PySem.W.mg_of X G a_NoCode
      oq_NoCode := oq_NoCode
      ok_NoCode := kc_NoCode
      ob_NoCode := eb_NoCode
      oy_NoCode := tt_NoCode
      ex_NoCode_NoCode := _root_.Z.exm_mk eb_NoCode ic_NoCode tt_NoCode es_NoCode_NoCode }
  refine ⟨Z.d_law, fun s v => .of_eq rfl, fun base _ _ => ⟨Z, rfl, ?_⟩⟩
  have G_Lpen := ok_Lpen (P := l.prog) (w := w) (base := base) T 
  have G_Lmixed := ok_Lmixed (P := l.prog) (w := w) (base := base) T 
  have G_Ltake := ok_Ltake (P := l.prog) (w := w) (base := base) T G_Lmixed
  have G_Lnumber := ok_Lnumber (P := l.prog) (w := w) (base := base) T G_Ltake
  have G_Lneeds := ok_Lneeds (P := l.prog) (w := w) (base := base) T 
  have G_Lrow := ok_Lrow (P := l.prog) (w := w) (base := base) T G_Ltake G_Lnumber G_Lneeds
  have G_Lheight := ok_Lheight (P := l.prog) (w := w) (base := base) T G_Lneeds
  have G_Lcode := ok_Lcode (P := l.prog) (w := w) (base := base) T G_Ltake G_Lrow G_Lheight
  have G_Llist := ok_Llist (P := l.prog) (w := w) (base := base) T 
  have G_is_whole := ok_is_whole (P := l.prog) (w := w) (base := base) T 
  have G_are_wholes := ok_are_wholes (P := l.prog) (w := w) (base := base) T G_is_whole
  have G_fits_head := ok_fits_head (P := l.prog) (w := w) (base := base) T 
  have G_fits_op := ok_fits_op (P := l.prog) (w := w) (base := base) T 
  have G_make_code := ok_make_code (P := l.prog) (w := w) (base := base) T G_fits_head G_fits_op
  have G_code_of := ok_code_of (P := l.prog) (w := w) (base := base) T G_are_wholes G_make_code
  have G_cut_up := ok_cut_up (P := l.prog) (w := w) (base := base) T 
  have G_parted_code := ok_parted_code (P := l.prog) (w := w) (base := base) T G_are_wholes G_cut_up G_make_code
  have G_is_code := ok_is_code (P := l.prog) (w := w) (base := base) T G_parted_code
  have G_heads_of := ok_heads_of (P := l.prog) (w := w) (base := base) T G_parted_code
  have G_rows_of := ok_rows_of (P := l.prog) (w := w) (base := base) T G_parted_code
  have G_Ltuples := ok_Ltuples (P := l.prog) (w := w) (base := base) T 
  have G_law := ok_law (P := l.prog) (w := w) (base := base) T G_Lpen G_Lcode G_Llist G_Ltake G_code_of G_is_code G_heads_of G_rows_of G_Ltuples
  exact G_law
theorem walk {l : PySem.W.OpenLaw} {q : Program} {loose : List Str} {XP : (Str → Option Value) → Heap → Prop} {YP : World → Heap → Prop} {d : DefRec} {K : Params → PySem.W.Frag} (hn : l.most = some 63) (hdf : d.params.defaults = [])
    (hY : ∀ (w : World) (h : Heap), YP w h → (K w.params).In h)
    (F : ∀ (w : World) (mg : Str → Option Value) (fa : Addr) (h : Heap), (K w.params).In h → h.Ns mainGlobals mg → mg d.name = some (.ref fa) →
      ∃ fd : FuncData, (∀ (s : Shared) (u : Value), BindsTo s fd ⟨[u], []⟩ [("_law_script", u)]) ∧ ∀ base : Heap, (K w.params).In base → base.Ns mainGlobals mg → ∃ Z : Adr, Z.K = K w.params ∧ FnOk l.prog w (K w.params) mg base (L2.CX l.prog w) 6 fa fd ["_law_script"] (sp_law Z)) :
    PySem.W.WalkO q loose XP YP l.row.toRowW d [] (fun f vs => PySem.call f vs) :=
  L2.walk_of (n := 63) (k := 6) (x := "_law_script") (CX := fun w => L2.CX l.prog w) (sp := fun w => sp_goal (K w.params)) hn (by decide) hdf ⟨rfl, by decide, by decide⟩ hY
    (fun w mg fa h a b c => by
      obtain ⟨fd, hb, z⟩ := F w mg fa h a b c
      refine ⟨fd, hb, fun base e f => ?_⟩
      obtain ⟨Z, hZ, g⟩ := z base e f
      exact g.imp fun vs H Q E q => goal_law Z (hZ ▸ q))
    (fun w H a ns hl hO hS => ⟨a, ns, rfl, hO, Scr.of hO hS, hl, fun _ => rfl⟩) fun w H s e s' z => by
      obtain ⟨_, _, _, _, _, _, _, _, _, _, _, _, z⟩ := z
      exact z.elim
end My
open PySem PySem.W PyProof.Rows
set_option maxRecDepth 100000 in
set_option maxHeartbeats 0 in
theorem PySem.Challenge.cw_ownchain_k23_codes_read_holds : PySem.Challenge.rw_ownchain_k23_codes_read.Holds := by
  w_on; o_law; k_head; (case hw => w_witness2)
  k_fill
  refine My.walk (l := PySem.Challenge.rw_ownchain_k23_codes_read) rfl rfl (fun w h Y => PySem.W.kIn_of Y) ?F
  case F =>
    intro w mg fa h KX G hmg
    refine' My.all_mk KX G hmg ?i_PUSH ?i_GET ?i_SET ?i_DROP ?i_JUMP ?i_UNLESS ?i_CALL ?i_BACK ?i_FAIL ?i_BREATH ?i_DO ?i_PICK ?i_MOST_FUNCTIONS ?i_MOST_PARAMS ?i_MOST_BOXES ?i_FIRST_DONE ?i_LAST_DONE ?i_MOST_PICKED ?z_all ?z_bool ?z_int ?z_isinstance ?z_len ?z_list ?z_max ?z_range ?z_tuple ?a_NoCode ?oq_NoCode ?kc_NoCode ?eb_NoCode ?tt_NoCode ?ic_NoCode ?es_NoCode_NoCode ?a_is_whole ?l_is_whole ?c_is_whole ?k_is_whole ?a_are_wholes ?l_are_wholes ?c_are_wholes ?k_are_wholes ?a_fits_op ?l_fits_op ?c_fits_op ?k_fits_op ?a_fits_head ?l_fits_head ?c_fits_head ?k_fits_head ?a_make_code ?l_make_code ?c_make_code ?k_make_code ?a_cut_up ?l_cut_up ?c_cut_up ?k_cut_up ?a_parted_code ?l_parted_code ?c_parted_code ?k_parted_code ?a_is_code ?l_is_code ?c_is_code ?k_is_code ?a_heads_of ?l_heads_of ?c_heads_of ?k_heads_of ?a_rows_of ?l_rows_of ?c_rows_of ?k_rows_of ?a_code_of ?l_code_of ?c_code_of ?k_code_of ?a_Lpen ?l_Lpen ?c_Lpen ?k_Lpen ?a_Lmixed ?l_Lmixed ?c_Lmixed ?k_Lmixed ?a_Ltake ?l_Ltake ?c_Ltake ?k_Ltake ?a_Lnumber ?l_Lnumber ?c_Lnumber ?k_Lnumber ?a_Lneeds ?l_Lneeds ?c_Lneeds ?k_Lneeds ?a_Lrow ?l_Lrow ?c_Lrow ?k_Lrow ?a_Lheight ?l_Lheight ?c_Lheight ?k_Lheight ?a_Lcode ?l_Lcode ?c_Lcode ?k_Lcode ?a_Llist ?l_Llist ?c_Llist ?k_Llist ?a_Ltuples ?l_Ltuples ?c_Ltuples ?k_Ltuples ?a_law ?l_law ?c_law ?k_law
    (case i_PUSH => k_is)
    (case i_GET => k_is)
    (case i_SET => k_is)
    (case i_DROP => k_is)
    (case i_JUMP => k_is)
    (case i_UNLESS => k_is)
    (case i_CALL => k_is)
    (case i_BACK => k_is)
    (case i_FAIL => k_is)
    (case i_BREATH => k_is)
    (case i_DO => k_is)
    (case i_PICK => k_is)
    (case i_MOST_FUNCTIONS => k_is)
    (case i_MOST_PARAMS => k_is)
    (case i_MOST_BOXES => k_is)
    (case i_FIRST_DONE => k_is)
    (case i_LAST_DONE => k_is)
    (case i_MOST_PICKED => k_is)
    (case z_all => k_is)
    (case z_bool => k_is)
    (case z_int => k_is)
    (case z_isinstance => k_is)
    (case z_len => k_is)
    (case z_list => k_is)
    (case z_max => k_is)
    (case z_range => k_is)
    (case z_tuple => k_is)
    (case a_NoCode => k_is)
    (case oq_NoCode => k_exc)
    (case kc_NoCode => k_is)
    (case eb_NoCode => k_is)
    (case tt_NoCode => k_is)
    (case ic_NoCode => k_is)
    (case es_NoCode_NoCode => k_is)
    (case a_is_whole => k_is)
    (case l_is_whole => k_is)
    (case c_is_whole => k_is)
    (case k_is_whole => k_is)
    (case a_are_wholes => k_is)
    (case l_are_wholes => k_is)
    (case c_are_wholes => k_is)
    (case k_are_wholes => k_is)
    (case a_fits_op => k_is)
    (case l_fits_op => k_is)
    (case c_fits_op => k_is)
    (case k_fits_op => k_is)
    (case a_fits_head => k_is)
    (case l_fits_head => k_is)
    (case c_fits_head => k_is)
    (case k_fits_head => k_is)
    (case a_make_code => k_is)
    (case l_make_code => k_is)
    (case c_make_code => k_is)
    (case k_make_code => k_is)
    (case a_cut_up => k_is)
    (case l_cut_up => k_is)
    (case c_cut_up => k_is)
    (case k_cut_up => k_is)
    (case a_parted_code => k_is)
    (case l_parted_code => k_is)
    (case c_parted_code => k_is)
    (case k_parted_code => k_is)
    (case a_is_code => k_is)
    (case l_is_code => k_is)
    (case c_is_code => k_is)
    (case k_is_code => k_is)
    (case a_heads_of => k_is)
    (case l_heads_of => k_is)
    (case c_heads_of => k_is)
    (case k_heads_of => k_is)
    (case a_rows_of => k_is)
    (case l_rows_of => k_is)
    (case c_rows_of => k_is)
    (case k_rows_of => k_is)
    (case a_code_of => k_is)
    (case l_code_of => k_is)
    (case c_code_of => k_is)
    (case k_code_of => k_is)
    (case a_Lpen => k_is)
    (case l_Lpen => k_is)
    (case c_Lpen => k_is)
    (case k_Lpen => k_is)
    (case a_Lmixed => k_is)
    (case l_Lmixed => k_is)
    (case c_Lmixed => k_is)
    (case k_Lmixed => k_is)
    (case a_Ltake => k_is)
    (case l_Ltake => k_is)
    (case c_Ltake => k_is)
    (case k_Ltake => k_is)
    (case a_Lnumber => k_is)
    (case l_Lnumber => k_is)
    (case c_Lnumber => k_is)
    (case k_Lnumber => k_is)
    (case a_Lneeds => k_is)
    (case l_Lneeds => k_is)
    (case c_Lneeds => k_is)
    (case k_Lneeds => k_is)
    (case a_Lrow => k_is)
    (case l_Lrow => k_is)
    (case c_Lrow => k_is)
    (case k_Lrow => k_is)
    (case a_Lheight => k_is)
    (case l_Lheight => k_is)
    (case c_Lheight => k_is)
    (case k_Lheight => k_is)
    (case a_Lcode => k_is)
    (case l_Lcode => k_is)
    (case c_Lcode => k_is)
    (case k_Lcode => k_is)
    (case a_Llist => k_is)
    (case l_Llist => k_is)
    (case c_Llist => k_is)
    (case k_Llist => k_is)
    (case a_Ltuples => k_is)
    (case l_Ltuples => k_is)
    (case c_Ltuples => k_is)
    (case k_Ltuples => k_is)
    (case a_law => k_is)
    (case l_law => k_is)
    (case c_law => k_is)
    (case k_law => k_is)
