import PyProof.Rows.All
import Wide.All
import OpenK.AllK
import Wide.FinOn
import HandS.ForMost
import HandS.ForExc
import HandS.IsInst
import HandS.Wide
import HandS.TryOnly
import HandS.Codes
import HandS.Style
import HandS.ExcInit
import HandS.ExcField
import HandS.TupAny
import HandS.Conv
import HandS.Lambda
import KE.KStateDown
import HandS.Head0
import HandS.Head1
import HandS.Head2
import HandS.HeadEnd
import HandS.HeadHook1
import HandS.HeadHook2
import HandS.HeadHook3
import HandS.HeadHook4
import HandS.HeadWalk
import KE.GoesMore
import PyProof.EnumMake
import HandS.Replace
import HandS.ReplaceLit
import HandS.ReplaceDef
import PyProof.FitsReplace
import PyProof.StrLawsChain
import PyProof.StrCalls6
import KE.IntTextLaws
import HandS.Text
import HandS.StrMore
import HandS.More
import HandS.Iter
import HandS.ExcIs
import KE.KExcIs
import PySem.Challenge.RW_ownchain_k13_no_codes_texts
set_option Elab.async false
set_option linter.all false
set_option maxRecDepth 100000
set_option maxHeartbeats 8000000
set_option Elab.async false
set_option linter.all false
set_option maxRecDepth 100000
set_option maxHeartbeats 4000000
/-! ### the head: what the top leaves, looked at by one hook -/
namespace Z
open PySem PySem.Spec PyProof.Rows L2
def strOf : Expr → Str
  | .Constant (.str s) _ _ => s
  | _ => ""
/-- the texts of a written tuple -/
def strsOf : Stmt → List Str
  | .Assign _ (.Tuple es _ _) _ => es.map strOf
  | _ => []
/-- the part of the heap that is told: what the module's names reach, and the statics -/
def kOf (n : Nat) (g : Addr → Option Obj) : PySem.W.Frag := He.frT g (cStatics :: He.asD g n)
/-- the texts of a tuple, looked at as they are: no sign is gone through -/
def txOf : Value → Option Str
  | .str s _ => some s
  | _ => none
theorem relAll_str (K : PySem.W.Frag) : ∀ (ss : List Str) (vs : List Value), vs.map txOf = ss.map some → He.relAll ((ss.map He.Dv.str).map (He.Dv.v K)) vs = true
  | [], [], _ => rfl
  | [], v :: r, h => by cases h
  | s :: r, [], h => by cases h
  | s :: r, v :: vs, h => by
    simp only [List.map_cons, List.cons.injEq] at h
    have ih := relAll_str K r vs h.2
    cases v with
    | str z t =>
      have e : z = s := Option.some.inj h.1
      subst e
      simp only [List.map_cons, He.Dv.v]
      refine Bool.and_eq_true_iff.mpr ⟨?_, ih⟩
      show He.relB (.str z) (.str z t) = true
      simp [He.relB]
    | _ => exact absurd h.1 (by unfold txOf; simp)
def tupV (K : PySem.W.Frag) (x : Str) : Option (List (Option Str)) := match List.lookup (He.ga K x) K with
  | some ⟨.type c, _, .seq its _, _⟩ => if c = "tuple" ∧ its.size ≤ sizeLine then some (its.toList.map txOf) else none
  | _ => none
theorem tupV_ok {K : PySem.W.Frag} {x : Str} {ss : List Str} (h : tupV K x = some (ss.map some)) : He.tupB K x (ss.map He.Dv.str) = true := by
  unfold tupV at h
  unfold He.tupB
  split at h
  · rename_i c _ its _ _ e
    split at h
    · rename_i hc
      rw [e]
      have hi := Option.some.inj h
      simp only [relAll_str K ss _ hi, hc.1, hc.2, decide_true, Bool.and_true]
    · cases h
  · cases h
def obsM (n : Nat) (fa : List He.Fa) (fn : List He.DefD) (tf : List He.Defn) (ex : PySem.W.Frag → List Bool) (g : Addr → Option Obj) : He.AlD × Bool := (He.obsD fa fn (kOf n g), (ex (kOf n g)).all id && He.tabsB g tf (kOf n g))
structure SaysM (fa : List He.Fa) (fn : List He.DefD) (tf : List He.Defn) (ex : PySem.W.Frag → List Bool) (tx dc : List (Str × List Str)) (w : World) (h : Heap) (K : PySem.W.Frag) : Prop where
  d : He.SaysD fa fn K
  more : (ex K).all id = true
  hd : ∀ p ∈ tf, PySem.W.codeHdIn K (He.cT K p).1 (He.cT K p).2 = true
  out : ∀ p ∈ tf, K.lookup (He.cT K p).2 = none
  empty : ∀ p ∈ tf, h.get? (He.cT K p).2 = some { cls := .none, data := .fields #[] }
  txs : (tx.map fun p => tupV K p.1) = tx.map fun p => some (p.2.map some)
  dcs : (dc.map fun p => He.dicW K (He.ga K p.1)) = dc.map fun p => some (He.keysIn w.params p.2)
theorem saysM_of {n : Nat} {fa : List He.Fa} {fn : List He.DefD} {tf : List He.Defn} {ex : PySem.W.Frag → List Bool} {tx dc : List (Str × List Str)} {w : World} {h : Heap} (e : obsM n fa fn tf ex h.get? = (He.valD fn, true)) (et : (tx.map fun p => tupV (kOf n h.get?) p.1) = tx.map fun p => some (p.2.map some)) (ed : (dc.map fun p => He.dicW (kOf n h.get?) (He.ga (kOf n h.get?) p.1)) = dc.map fun p => some (He.keysIn w.params p.2)) : SaysM fa fn tf ex tx dc w h (kOf n h.get?) := by
  have a : He.obsD fa fn (kOf n h.get?) = He.valD fn := congrArg Prod.fst e
  have b : ((ex (kOf n h.get?)).all id && He.tabsB h.get? tf (kOf n h.get?)) = true := congrArg Prod.snd e
  obtain ⟨b1, b2⟩ := Bool.and_eq_true_iff.mp b
  have each : ∀ p ∈ tf, PySem.W.codeHdIn (kOf n h.get?) (He.cT (kOf n h.get?) p).1 (He.cT (kOf n h.get?) p).2 = true ∧ ∃ o, h.get? (He.cT (kOf n h.get?) p).2 = some o ∧ He.emptyTab o = true := by
    intro p hp
    obtain ⟨c1, c2⟩ := Bool.and_eq_true_iff.mp (List.all_eq_true.mp b2 p hp)
    cases q : h.get? (He.cT (kOf n h.get?) p).2 with
    | none => rw [q] at c2; exact absurd c2 (by simp)
    | some o => rw [q] at c2; exact ⟨c1, o, rfl, c2⟩
  exact ⟨a, b1, fun p hp => (each p hp).1, fun p hp => (each p hp).2.elim fun o z => He.frT_none z.1 z.2, fun p hp => (each p hp).2.elim fun o z => by rw [z.1, He.emptyTab_eq z.2], et, ed⟩
/-- the facts, in parts that are looked at one by one -/
structure Chk where
  fa : List He.Fa
  fn : List He.DefD
  tf : List He.Defn
  ex : PySem.W.Frag → List Bool
  tx : List (Str × List Str)
  dc : List (Str × List Str)
abbrev ObsT : Type := (He.AlD × Bool) × List (Option (List (Option Str))) × List (Option (List (Option (Str × Int))))
def Chk.obs (c : Chk) (n : Nat) (g : Addr → Option Obj) : ObsT := (obsM n c.fa c.fn c.tf c.ex g, c.tx.map fun p => tupV (kOf n g) p.1, c.dc.map fun p => He.dicW (kOf n g) (He.ga (kOf n g) p.1))
def Chk.val (c : Chk) (w : World) : ObsT := ((He.valD c.fn, true), c.tx.map fun p => some (p.2.map some), c.dc.map fun p => some (He.keysIn w.params p.2))
def hookM (n : Nat) (cs : List Chk) : PySem.W.Hook where
  α := List ObsT
  obs := fun s => cs.map fun c => c.obs n s.heap.get?
  val := fun w => cs.map fun c => c.val w
  says := fun w h => ∃ K : PySem.W.Frag, K.In h ∧ ∀ c ∈ cs, SaysM c.fa c.fn c.tf c.ex c.tx c.dc w h K
  of := fun _ s e => ⟨kOf n s.heap.get?, He.frT_in, fun c hc => by
    obtain ⟨i, hi, rfl⟩ := List.getElem_of_mem hc
    have z := congrArg (fun l : List ObsT => l[i]?) e
    simp only [List.getElem?_map, List.getElem?_eq_getElem hi, Option.map_some] at z
    have z := Option.some.inj z
    exact saysM_of (congrArg Prod.fst z) (congrArg (fun t : ObsT => t.2.1) z) (congrArg (fun t : ObsT => t.2.2) z)⟩
  keeps := fun _ _ _ ⟨K, hK, c⟩ k => ⟨K, PySem.W.Frag.In.keeps hK k, fun x hx => ⟨(c x hx).d, (c x hx).more, (c x hx).hd, (c x hx).out, fun p hp => k _ _ ((c x hx).empty p hp), (c x hx).txs, (c x hx).dcs⟩⟩
theorem obsM_eq {n : Nat} {cs : List Chk} {g : Addr → Option Obj} {s : Shared} (h : ∀ a, g a = s.heap.get? a) : (cs.map fun c => c.obs n g) = (hookM n cs).obs s := by
  have : g = s.heap.get? := funext h
  subst this
  rfl
theorem runs_of {σ B C γ : Type} {E : Option σ} {a : σ → Bool} {b : σ → B} {good : B} {cs : List C} {o : C → σ → γ} {v : C → γ} (h0 : E.map (fun s => (a s, b s)) = some (true, good)) (h : ∀ c ∈ cs, E.map (o c) = some (v c)) : E.map (fun s => (a s, b s, cs.map fun c => o c s)) = some (true, good, cs.map v) := by
  cases E with
  | none => cases h0
  | some s =>
    have e0 : (a s, b s) = (true, good) := Option.some.inj h0
    have e1 : a s = true := congrArg Prod.fst e0
    have e2 : b s = good := congrArg Prod.snd e0
    have e3 : (cs.map fun c => o c s) = cs.map v := List.map_congr_left fun c hc => Option.some.inj (h c hc)
    show some (a s, b s, cs.map fun c => o c s) = _
    rw [e1, e2, e3]
section
variable {fa : List He.Fa} {fn : List He.DefD} {tf : List He.Defn} {ex : PySem.W.Frag → List Bool} {tx dc : List (Str × List Str)} {w : World} {h : Heap} {K : PySem.W.Frag}
theorem SaysM.bool (c : SaysM fa fn tf ex tx dc w h K) (i : Nat) {b : Bool} (e : (ex K)[i]? = some b) : b = true := List.all_eq_true.mp c.more b (List.mem_of_getElem? e)
theorem SaysM.tup (c : SaysM fa fn tf ex tx dc w h K) (i : Nat) {x : Str} {ss : List Str} (e : tx[i]? = some (x, ss)) : He.tupB K x (ss.map He.Dv.str) = true := by
  have z := congrArg (fun l : List (Option (List (Option Str))) => l[i]?) c.txs
  simp only [List.getElem?_map, e, Option.map_some] at z
  exact tupV_ok (Option.some.inj z)
theorem SaysM.dct (c : SaysM fa fn tf ex tx dc w h K) (i : Nat) {x : Str} {ks : List Str} (e : dc[i]? = some (x, ks)) : He.dicW K (He.ga K x) = some (He.keysIn w.params ks) := by
  have z := congrArg (fun l : List (Option (List (Option (Str × Int)))) => l[i]?) c.dcs
  simp only [List.getElem?_map, e, Option.map_some] at z
  exact Option.some.inj z
theorem SaysM.dec (c : SaysM fa fn tf ex tx dc w h K) (i : Nat) {P : Prop} [Decidable P] (e : (ex K)[i]? = some (decide P)) : P := of_decide_eq_true (c.bool i e)
theorem SaysM.func (c : SaysM fa fn tf ex tx dc w h K) (i : Nat) {p : Str × Option Str} {name qual : Str} {st : Stmt} (e : fn[i]? = some ⟨p, name, qual, defArgs st, defBody st, defScope st, [], []⟩) : ∃ fd, Fun K name qual st (He.fAd K p) fd := by
  obtain ⟨fd, ⟨oc, od, dV, kV, doc, pm, an, cdv, ct, osl, e1, e2, e3, e4, _⟩, kp⟩ := c.d.def_ i e
  rcases e4 with ⟨_, z⟩ | ⟨z, _⟩
  · subst z
    exact ⟨fd, ⟨oc, od, kV, doc, pm, an, cdv, ct, osl, e1, e2, e3⟩, kp⟩
  · exact absurd rfl z
end
/-- an own exception with an __init__ of its own: its class object -/
def oexB (K : PySem.W.Frag) (C : Addr) : Bool := match K.lookup C with
  | some ⟨.type t, _, .cls cd, sl⟩ => t == "type" && (match cd.mro with
    | .ref D :: bm => D == C && (!cd.hasDel && (cd.hasDict && PySem.HandSPX.refsVE bm))
    | _ => false) && (match sl.toList with
    | [_, _, _, _, some (.builtin n), _] => n == "ValueError.__new__"
    | _ => false)
  | _ => false
theorem oexB_ok {K : PySem.W.Frag} {C : Addr} (h : oexB K C = true) : ∃ nm q N bs bm sn sub ab col dd k0 k1 k2 k3 k5, K.lookup C = some (excClassObj nm q C N bs bm true sn sub ab col dd k0 k1 k2 k3 k5 "ValueError.__new__") ∧ PySem.HandSPX.refsVE bm = true := by
  unfold oexB at h
  cases e : K.lookup C with
  | none => rw [e] at h; cases h
  | some o =>
    rw [e] at h
    obtain ⟨oc, od, dt, ⟨sl⟩⟩ := o
    cases oc with
    | type t =>
      cases dt with
      | cls cd =>
        obtain ⟨h1, h2⟩ := Bool.and_eq_true_iff.mp h
        obtain ⟨h3, h4⟩ := Bool.and_eq_true_iff.mp h1
        obtain rfl : t = "type" := beq_iff_eq.mp h3
        obtain ⟨nm, bs, mro, N, q, hd, sn, sub, ab, col, del⟩ := cd
        dsimp only at h2 h4
        match mro, h4 with
        | .ref D :: bm, h4 =>
          obtain ⟨h5, h6⟩ := Bool.and_eq_true_iff.mp h4
          obtain ⟨h7, h8⟩ := Bool.and_eq_true_iff.mp h6
          obtain ⟨h9, h10⟩ := Bool.and_eq_true_iff.mp h8
          obtain rfl : D = C := beq_iff_eq.mp h5
          obtain rfl : hd = true := h9
          obtain rfl : del = false := by simpa using h7
          match sl, h2 with
          | [k0, k1, k2, k3, some (.builtin n), k5], h2 =>
            obtain rfl : n = "ValueError.__new__" := beq_iff_eq.mp h2
            exact ⟨nm, q, N, bs, bm, sn, sub, ab, col, od, k0, k1, k2, k3, k5, rfl, h10⟩
      | _ => cases h
    | _ => cases h
def veiB (K : PySem.W.Frag) (C : Addr) : Bool := match PySem.W.findCls K (.ref C) (.type "type") "__init__" with
  | some (.val (.builtin n)) => n == "ValueError.__init__"
  | _ => false
theorem veiB_ok {K : PySem.W.Frag} {C : Addr} (h : veiB K C = true) : PySem.W.findCls K (.ref C) (.type "type") "__init__" = some (.val (.builtin "ValueError.__init__")) := by
  unfold veiB at h
  split at h
  · rename_i n e
    rw [e, beq_iff_eq.mp h]
  · cases h
/-- the walk of a law, by what the hook says -/
theorem walkM {l : PySem.W.OpenLaw} {n k : Nat} {q : Program} {loose : List Str} {XP : (Str → Option Value) → Heap → Prop} {YP : World → Heap → Prop} {d : DefRec} {CX : World → CXT} {x : Str} (hn : l.most = some n) (hle : n ≤ sizeLine) (hdf : d.params.defaults = []) (hr : Room k callerA)
    (F : ∀ (w : World) (mg : Str → Option Value) (fa : Addr) (h : Heap), YP w h → h.Ns mainGlobals mg → mg d.name = some (.ref fa) → ∃ (K : PySem.W.Frag) (fd : FuncData) (sp : Sp), K.In h ∧ (∀ (s : Shared) (u : Value), BindsTo s fd ⟨[u], []⟩ [(x, u)]) ∧
      (∀ (H : Hp) (a : Addr) (ns : List Int), ns.length ≤ n → Only H → SqL K H a (ns.map V.int) → sp [.ref a] H (fun v _ => v = .bl true) fun _ _ _ => False) ∧ ∀ base : Heap, K.In base → base.Ns mainGlobals mg → FnOk l.prog w K mg base (CX w) k fa fd [x] sp)
    (hCX : ∀ (w : World) (H : Hp) (s : Shared) (e : Value) (s' : Shared), CX w [] H s (fun _ _ _ => False) e s' → False) : PySem.W.WalkO q loose XP YP l.row.toRowW d [] (fun f vs => PySem.call f vs) :=
  Att.attach_call hn hdf fun w s0 s1 mg mb fa o pm cd doc a vs ns G Y ho hd hcd hmg hobj hints hlen hg => by
    obtain ⟨K, fd, sp, hK, hb, hs, hF⟩ := F w mg fa _ Y G.T.g hmg
    refine law_call hK G.T.g G.T.b G.T.builtins G.T.nolimit hg hobj hints ?_ hr hF hb (fun H o s => hs H a ns hlen o s) fun H e s' c => hCX w H s1 e s' c
    exact Nat.le_trans hlen hle
end Z

namespace My
open PySem L2
def top (i : Nat) : Stmt := PySem.Challenge.pw_ownchain_k13_no_codes_texts.main.body.getD i (.Pass ⟨0, 0, 0, 0⟩)
abbrev st_NoText_init : Stmt := inClass (top 3) 0
abbrev nm_NoText_init : List Str := ["self", "at"]
abbrev st_is_whole : Stmt := top 26
abbrev nm_is_whole : List Str := ["thing"]
abbrev st_are_wholes : Stmt := top 27
abbrev nm_are_wholes : List Str := ["things", "many", ".0", "thing"]
abbrev st_fits_op : Stmt := top 28
abbrev nm_fits_op : List Str := ["op", "number", "functions", "rows"]
abbrev st_fits_head : Stmt := top 29
abbrev nm_fits_head : List Str := ["head", "at", "rows", "start", "params", "boxes"]
abbrev st_make_code : Stmt := top 30
abbrev nm_make_code : List Str := ["heads", "rows", "at", "op", "number"]
abbrev st_code_of : Stmt := top 31
abbrev nm_code_of : List Str := ["heads", "rows", "head", "row", "found", ".0"]
abbrev st_word_of : Stmt := top 37
abbrev nm_word_of : List Str := ["kind"]
abbrev st_kind_of : Stmt := top 38
abbrev nm_kind_of : List Str := ["word", "kind"]
abbrev st_is_of : Stmt := top 42
abbrev nm_is_of : List Str := ["word", "signs", "most", "sign"]
abbrev st_is_number_of : Stmt := top 43
abbrev nm_is_number_of : List Str := ["word", "most", "figures"]
abbrev st_is_number_word : Stmt := top 44
abbrev nm_is_number_word : List Str := ["word"]
abbrev st_row_in : Stmt := top 51
abbrev nm_row_in : List Str := ["words", "word", "most", "kind"]
abbrev st_head_in : Stmt := top 52
abbrev nm_head_in : List Str := ["words", ".0", "word"]
abbrev st_read_code : Stmt := top 53
abbrev nm_read_code : List Str := ["text", "heads", "rows", "at", "line", "words", "head", "row"]
abbrev st_Lpen : Stmt := top 55
abbrev nm_Lpen : List Str := ["_law_script", "_law_k", "_law_cell"]
abbrev st_Ldraw : Stmt := top 56
abbrev nm_Ldraw : List Str := ["_law_pen_here", "_law_many", "_law_drawn", "_law_number_here"]
abbrev st_Lnumber : Stmt := top 57
abbrev nm_Lnumber : List Str := ["_law_pen_here", "_law_greats", "_law_way", "_law_great"]
abbrev st_Lrow : Stmt := top 58
abbrev nm_Lrow : List Str := ["_law_pen_here", "_law_many", "_law_rows", "_law_greats", "_law_op", "_law_word", "_law_kind", "_law_words", "_law_number_here"]
abbrev st_Lcode : Stmt := top 59
abbrev nm_Lcode : List Str := ["_law_pen_here", "_law_most", "_law_longest", "_law_greats", "_law_many", "_law_rows", "_law_code_here", "_law_lines", "_law_k", "_law_params", "_law_head", "_law_number_here", "_law_op", "_law_line", ".0"]
abbrev st_Lcaught : Stmt := top 60
abbrev nm_Lcaught : List Str := ["_law_text", "_law_caught_here", "e"]
abbrev st_Lbad_lines : Stmt := top 61
abbrev nm_Lbad_lines : List Str := ["_law_is_head", "_law_some"]
abbrev st_Lline_exchanged : Stmt := top 62
abbrev nm_Lline_exchanged : List Str := ["_law_pen_here", "_law_lines", "_law_many", "_law_at", "_law_bad", "_law_found", "_law_behind"]
abbrev st_Lno_code : Stmt := top 63
abbrev nm_Lno_code : List Str := ["_law_pen_here", "_law_lines", "_law_many", "_law_rows", "_law_far", "_law_heads", "_law_bad", "_law_way", "_law_at"]
abbrev st_law : Stmt := top 64
abbrev nm_law : List Str := ["_law_script", "_law_k", "_law_pen_here", "_law_code_here", "_law_lines", "_law_turn", "_law_text", "_law_at", "_law_thing"]
end My
namespace My
open PySem Z
open L2 hiding rLen Same Same.refl Same.trans Same.free Same.seq Same.made

/-! ### the top's run, and what is told of it -/
def hnames0 : List Str := ["ChainError", "NoSheet", "NoText", "NoCode", "NoRow", "NoName", "PUSH", "GET", "SET_codes", "DROP", "JUMP", "UNLESS", "CALL", "BACK", "FAIL", "BREATH", "DO_codes", "PICK", "MOST_FUNCTIONS", "MOST_PARAMS", "MOST_BOXES", "FIRST_DONE_codes", "LAST_DONE", "MOST_PICKED", "is_whole", "are_wholes", "fits_op", "fits_head", "make_code", "code_of"]
def hnames1 : List Str := ["SET_kinds", "NEW", "EARLY", "LATE", "word_of", "kind_of", "FIGURES", "MOST_FIGURES", "is_of", "is_number_of", "is_number_word", "NUMBERED", "ALONE", "DO_codetexts", "FIRST_DONE_codetexts", "MOST_PUSHED", "row_in", "head_in", "read_code", "_law_pen", "_law_draw", "_law_number", "_law_row", "_law_code", "_law_caught", "_law_bad_lines", "_law_line_exchanged", "_law_no_code"]
def hnames : List Str := hnames0 ++ (hnames1)
abbrev htx : List (Str × List Str) := []
abbrev hdc : List (Str × List Str) := [("NUMBERED", ["push", "get", "set", "jump", "unless", "call", "pick"]), ("ALONE", ["drop", "back", "fail", "breath"])]
def hfa0 : List He.Fa := [
  .int "PUSH" 0,
  .int "GET" 1,
  .int "SET_codes" 2,
  .int "DROP" 3,
  .int "JUMP" 4,
  .int "UNLESS" 5,
  .int "CALL" 6,
  .int "BACK" 7,
  .int "FAIL" 8,
  .int "BREATH" 9,
  .int "DO_codes" 10,
  .int "PICK" 11,
  .int "MOST_FUNCTIONS" 16,
  .int "MOST_PARAMS" 4,
  .int "MOST_BOXES" 12,
  .int "FIRST_DONE_codes" 8,
  .int "LAST_DONE" 19,
  .int "MOST_PICKED" 12,
  .int "SET_kinds" 2,
  .int "NEW" 19,
  .str "FIGURES" "0123456789",
  .int "MOST_FIGURES" 60,
  .int "DO_codetexts" 10,
  .int "FIRST_DONE_codetexts" 8,
  .int "MOST_PUSHED" 100,
  .glo "EARLY",
  .glo "LATE",
  .glo "NUMBERED",
  .glo "ALONE",
  .free "ValueError",
  .free "all",
  .free "bool",
  .free "enumerate",
  .free "int",
  .free "isinstance",
  .free "len",
  .free "list",
  .free "range",
  .free "str",
  .free "tuple",
  .glo "is_whole",
  .glo "are_wholes",
  .glo "fits_op",
  .glo "fits_head",
  .glo "make_code",
  .glo "code_of",
  .glo "word_of",
  .glo "kind_of",
  .glo "is_of",
  .glo "is_number_of",
  .glo "is_number_word",
  .glo "row_in",
  .glo "head_in",
  .glo "read_code",
  .glo "_law_pen",
  .glo "_law_draw",
  .glo "_law_number",
  .glo "_law_row",
  .glo "_law_code",
  .glo "_law_caught"]
def hfn0 : List He.DefD := [
  ⟨("NoText", some "__init__"), "__init__", "NoText.__init__", defArgs st_NoText_init, defBody st_NoText_init, defScope st_NoText_init, [], []⟩,
  ⟨("is_whole", none), "is_whole", "is_whole", defArgs st_is_whole, defBody st_is_whole, defScope st_is_whole, [], []⟩,
  ⟨("are_wholes", none), "are_wholes", "are_wholes", defArgs st_are_wholes, defBody st_are_wholes, defScope st_are_wholes, [], []⟩,
  ⟨("fits_op", none), "fits_op", "fits_op", defArgs st_fits_op, defBody st_fits_op, defScope st_fits_op, [], []⟩,
  ⟨("fits_head", none), "fits_head", "fits_head", defArgs st_fits_head, defBody st_fits_head, defScope st_fits_head, [], []⟩,
  ⟨("make_code", none), "make_code", "make_code", defArgs st_make_code, defBody st_make_code, defScope st_make_code, [], []⟩,
  ⟨("code_of", none), "code_of", "code_of", defArgs st_code_of, defBody st_code_of, defScope st_code_of, [], []⟩,
  ⟨("word_of", none), "word_of", "word_of", defArgs st_word_of, defBody st_word_of, defScope st_word_of, [], []⟩,
  ⟨("kind_of", none), "kind_of", "kind_of", defArgs st_kind_of, defBody st_kind_of, defScope st_kind_of, [], []⟩,
  ⟨("is_of", none), "is_of", "is_of", defArgs st_is_of, defBody st_is_of, defScope st_is_of, [], []⟩,
  ⟨("is_number_of", none), "is_number_of", "is_number_of", defArgs st_is_number_of, defBody st_is_number_of, defScope st_is_number_of, [], []⟩,
  ⟨("is_number_word", none), "is_number_word", "is_number_word", defArgs st_is_number_word, defBody st_is_number_word, defScope st_is_number_word, [], []⟩,
  ⟨("row_in", none), "row_in", "row_in", defArgs st_row_in, defBody st_row_in, defScope st_row_in, [], []⟩,
  ⟨("head_in", none), "head_in", "head_in", defArgs st_head_in, defBody st_head_in, defScope st_head_in, [], []⟩,
  ⟨("read_code", none), "read_code", "read_code", defArgs st_read_code, defBody st_read_code, defScope st_read_code, [], []⟩,
  ⟨("_law_pen", none), "_law_pen", "_law_pen", defArgs st_Lpen, defBody st_Lpen, defScope st_Lpen, [], []⟩,
  ⟨("_law_draw", none), "_law_draw", "_law_draw", defArgs st_Ldraw, defBody st_Ldraw, defScope st_Ldraw, [], []⟩,
  ⟨("_law_number", none), "_law_number", "_law_number", defArgs st_Lnumber, defBody st_Lnumber, defScope st_Lnumber, [], []⟩,
  ⟨("_law_row", none), "_law_row", "_law_row", defArgs st_Lrow, defBody st_Lrow, defScope st_Lrow, [], []⟩,
  ⟨("_law_code", none), "_law_code", "_law_code", defArgs st_Lcode, defBody st_Lcode, defScope st_Lcode, [], []⟩,
  ⟨("_law_caught", none), "_law_caught", "_law_caught", defArgs st_Lcaught, defBody st_Lcaught, defScope st_Lcaught, [], []⟩,
  ⟨("_law_bad_lines", none), "_law_bad_lines", "_law_bad_lines", defArgs st_Lbad_lines, defBody st_Lbad_lines, defScope st_Lbad_lines, [], []⟩,
  ⟨("_law_line_exchanged", none), "_law_line_exchanged", "_law_line_exchanged", defArgs st_Lline_exchanged, defBody st_Lline_exchanged, defScope st_Lline_exchanged, [], []⟩,
  ⟨("_law_no_code", none), "_law_no_code", "_law_no_code", defArgs st_Lno_code, defBody st_Lno_code, defScope st_Lno_code, [], []⟩]
def hex0 (K : PySem.W.Frag) : List Bool := [
  He.tupB K "EARLY" [.str "set", .str "all", .str "pick", .str "loop", .str "call", .str "fail", .str "add", .str "sub", .str "mul"],
  He.tupB K "LATE" [.str "quo", .str "rest", .str "less", .str "same", .str "push", .str "at", .str "put", .str "size", .str "new"],
  He.valsB K (He.ga K "NUMBERED") [("push", .int 0), ("get", .int 1), ("set", .int 2), ("jump", .int 4), ("unless", .int 5), ("call", .int 6), ("pick", .int 11)],
  He.valsB K (He.ga K "ALONE") [("drop", .int 3), ("back", .int 7), ("fail", .int 8), ("breath", .int 9)],
  PySem.W.readsIn K (He.ga K "ChainError") (.type "type"),
  decide (PySem.W.specialIn K (.ref (He.ga K "ChainError")) "__getattribute__" = some (some (.builtin "type.__getattribute__"))),
  _root_.Z.veiB K (He.ga K "ChainError"),
  decide (PySem.W.findIn K (.ref (He.ga K "NoText")) "at" = some none),
  _root_.Z.oexB K (He.ga K "NoText"),
  decide (PySem.W.findIn K (.ref (He.ga K "NoText")) "__setattr__" = some (some (.builtin "object.__setattr__"))),
  decide (PySem.W.subIn K (.ref (He.ga K "NoText")) (.type "BaseException") = some true),
  decide (PySem.W.typeIn K (.ref (He.ga K "NoText")) = some (.type "type")),
  PySem.W.keepIn K (.ref (He.ga K "NoText")),
  xfB K (He.ga K "NoText")]
abbrev hc0 : _root_.Z.Chk := ⟨hfa0, hfn0, [], hex0, htx, hdc⟩
def hfa1 : List He.Fa := [
  .glo "_law_bad_lines",
  .glo "_law_line_exchanged",
  .glo "_law_no_code",
  .glo "law",
  .glo "ChainError",
  .glo "NoSheet",
  .glo "NoText",
  .glo "NoCode",
  .exc "NoCode",
  .glo "NoRow",
  .glo "NoName",
  .exm "NoText" "ChainError" true,
  .exm "NoCode" "ChainError" true]
def hfn1 : List He.DefD := [
  ⟨("law", none), "law", "law", defArgs st_law, defBody st_law, defScope st_law, [], []⟩]
def hex1 (K : PySem.W.Frag) : List Bool := [
  decide (PySem.W.findIn K (.ref (He.ga K "NoText")) "__init__" = some (some (.ref (He.fAd K ("NoText", some "__init__"))))),
  decide (PySem.W.typeIn K (.ref (He.fAd K ("NoText", some "__init__"))) = some (.type "function")),
  decide (PySem.W.findIn K (.ref (He.ga K "NoText")) "__getattribute__" = some (some (.builtin "BaseException.__getattribute__"))),
  decide (PySem.W.findIn K (.ref (He.ga K "NoText")) "__getattr__" = some none),
  PySem.W.hasDictIn K (He.ga K "NoText"),
  decide (PySem.W.findIn K (.ref (He.ga K "NoText")) "__class__" = some (some (.builtin "object.__class__"))),
  decide (PySem.W.specialIn K (.builtin "object.__class__") "__get__" = some (some (.builtin "getset_descriptor.__get__"))),
  decide (PySem.W.takesIn K (.builtin "object.__class__") = some true),
  decide (PySem.W.mroIn K (He.ga K "NoText") (.type "object") = some true),
  decide (PySem.W.kitOne K (.ref (He.ga K "NoText")) (.type "ValueError") = some true),
  decide (PySem.W.kitOne K (.ref (He.ga K "NoText")) (.ref (He.ga K "NoCode")) = some false),
  decide (PySem.W.kitOne K (.ref (He.ga K "NoText")) (.ref (He.ga K "NoName")) = some false),
  decide (PySem.W.kitOne K (.ref (He.ga K "NoText")) (.ref (He.ga K "NoRow")) = some false),
  decide (PySem.W.kitOne K (.ref (He.ga K "NoText")) (.ref (He.ga K "NoSheet")) = some false)]
abbrev hc1 : _root_.Z.Chk := ⟨hfa1, hfn1, [], hex1, [], []⟩
def hfa2 : List He.Fa := []
def hfn2 : List He.DefD := []
def hex2 (K : PySem.W.Frag) : List Bool := [
  decide (PySem.W.kitOne K (.ref (He.ga K "NoText")) (.ref (He.ga K "NoText")) = some true),
  decide (PySem.W.findIn K (.ref (He.ga K "NoCode")) "__getattribute__" = some (some (.builtin "BaseException.__getattribute__"))),
  decide (PySem.W.findIn K (.ref (He.ga K "NoCode")) "__getattr__" = some none),
  decide (PySem.W.subIn K (.ref (He.ga K "NoCode")) (.type "BaseException") = some true),
  PySem.W.hasDictIn K (He.ga K "NoCode"),
  decide (PySem.W.findIn K (.ref (He.ga K "NoCode")) "__class__" = some (some (.builtin "object.__class__"))),
  decide (PySem.W.mroIn K (He.ga K "NoCode") (.type "object") = some true),
  decide (PySem.W.kitOne K (.ref (He.ga K "NoCode")) (.type "ValueError") = some true),
  decide (PySem.W.kitOne K (.ref (He.ga K "NoCode")) (.ref (He.ga K "NoCode")) = some true),
  decide (PySem.W.kitOne K (.ref (He.ga K "NoCode")) (.ref (He.ga K "NoName")) = some false),
  decide (PySem.W.kitOne K (.ref (He.ga K "NoCode")) (.ref (He.ga K "NoRow")) = some false),
  decide (PySem.W.kitOne K (.ref (He.ga K "NoCode")) (.ref (He.ga K "NoSheet")) = some false),
  decide (PySem.W.kitOne K (.ref (He.ga K "NoCode")) (.ref (He.ga K "NoText")) = some false)]
abbrev hc2 : _root_.Z.Chk := ⟨hfa2, hfn2, [], hex2, [], []⟩
abbrev hcs : List _root_.Z.Chk := [hc0, hc1, hc2]
abbrev hR : PySem.W.OpenRow := PySem.W.OpenLaw.row PySem.Challenge.rw_ownchain_k13_no_codes_texts
abbrev hq : Program := PySem.W.view hR.prog [64]
abbrev hhk : PySem.W.Hook := _root_.Z.hookM 4 hcs
abbrev hob (s : PySem.W.SharedT) : List _root_.Z.ObsT := hcs.map fun c => c.obs 4 (HandSHeadRun.getT s)
theorem hob_eq (s : PySem.W.SharedT) : hob s = hhk.obs s.abs := _root_.Z.obsM_eq (HandSHeadRun.getT_eq s)
section
open PySem.W HandSHeadRun
theorem byFollow {P : World → Prop} (row : String) (t : ∀ w : World, P (w.withFollow row true)) (f : ∀ w : World, P (w.withFollow row false)) (w : World) : P w := by
  have h : P (w.withFollow row (w.params.followText row)) := by
    cases w.params.followText row
    · exact f w
    · exact t w
  rwa [World.withFollow_self] at h
abbrev HRunS (w : World) : Prop := ∀ os : OsState, (endF (stepQ (denQ tabQ) hR.prog w) 20000 hR.prog w os).map (fun s => (looksF hR.prog (boot_heap w.params) s.abs, seenQ hq hnames (importedModules hR.prog.main.body) (fun s => xlAt hq [] s && recOk hR.toRowW.records s) s.abs)) = some (true, openGood hq hnames)
set_option maxHeartbeats 0 in
theorem hrunS_t (w : World) : HRunS (w.withFollow "special-get-raises" true) := by
  intro os
  kernel_rfl
set_option maxHeartbeats 0 in
theorem hrunS_f (w : World) : HRunS (w.withFollow "special-get-raises" false) := by
  intro os
  kernel_rfl
theorem hrunS (w : World) : HRunS w := byFollow (P := HRunS) "special-get-raises" hrunS_t hrunS_f w
abbrev HRun0 (w : World) : Prop := ∀ os : OsState, (endF (stepQ (denQ tabQ) hR.prog w) 20000 hR.prog w os).map (fun s => hc0.obs 4 (getT s)) = some (hc0.val w)
set_option maxHeartbeats 0 in
theorem hrun0_t (w : World) : HRun0 (w.withFollow "special-get-raises" true) := by
  intro os
  kernel_rfl
set_option maxHeartbeats 0 in
theorem hrun0_f (w : World) : HRun0 (w.withFollow "special-get-raises" false) := by
  intro os
  kernel_rfl
theorem hrun0 (w : World) : HRun0 w := byFollow (P := HRun0) "special-get-raises" hrun0_t hrun0_f w
abbrev HRun1 (w : World) : Prop := ∀ os : OsState, (endF (stepQ (denQ tabQ) hR.prog w) 20000 hR.prog w os).map (fun s => hc1.obs 4 (getT s)) = some (hc1.val w)
set_option maxHeartbeats 0 in
theorem hrun1_t (w : World) : HRun1 (w.withFollow "special-get-raises" true) := by
  intro os
  kernel_rfl
set_option maxHeartbeats 0 in
theorem hrun1_f (w : World) : HRun1 (w.withFollow "special-get-raises" false) := by
  intro os
  kernel_rfl
theorem hrun1 (w : World) : HRun1 w := byFollow (P := HRun1) "special-get-raises" hrun1_t hrun1_f w
abbrev HRun2 (w : World) : Prop := ∀ os : OsState, (endF (stepQ (denQ tabQ) hR.prog w) 20000 hR.prog w os).map (fun s => hc2.obs 4 (getT s)) = some (hc2.val w)
set_option maxHeartbeats 0 in
theorem hrun2_t (w : World) : HRun2 (w.withFollow "special-get-raises" true) := by
  intro os
  kernel_rfl
set_option maxHeartbeats 0 in
theorem hrun2_f (w : World) : HRun2 (w.withFollow "special-get-raises" false) := by
  intro os
  kernel_rfl
theorem hrun2 (w : World) : HRun2 w := byFollow (P := HRun2) "special-get-raises" hrun2_t hrun2_f w
theorem hrun (w : World) : RunEq hR hq hhk hob 20000 hnames w := fun os => _root_.Z.runs_of (cs := hcs) (o := fun c s => c.obs 4 (getT s)) (v := fun c => c.val w) (hrunS w os) fun c hc => by
  first | simp only [hcs, List.mem_cons, List.not_mem_nil, or_false] at hc | simp only [List.mem_cons, List.not_mem_nil, or_false] at hc
  rcases hc with rfl | rfl | rfl
  · exact hrun0 w os
  · exact hrun1 w os
  · exact hrun2 w os
end
theorem imp_use {P Q : Prop} (p : P) (f : P → Q) : Q := f p
abbrev AllT : Prop := ∀ (w : World) (mg : Str → Option Value) (f : Addr) (h : Heap), (∃ K : PySem.W.Frag, K.In h ∧ ∀ c ∈ hcs, _root_.Z.SaysM c.fa c.fn c.tf c.ex c.tx c.dc w h K) → h.Ns mainGlobals mg → mg "law" = some (.ref f) → ∃ (K : PySem.W.Frag) (fd : FuncData) (sp : Sp), K.In h ∧ (∀ (s : Shared) (u : Value), BindsTo s fd ⟨[u], []⟩ [("_law_script", u)]) ∧
  (∀ (H : Hp) (a : Addr) (ns : List Int), ns.length ≤ 63 → Only H → SqL K H a (ns.map V.int) → sp [.ref a] H (fun v _ => v = .bl true) fun _ _ _ => False) ∧ ∀ base : Heap, K.In base → base.Ns mainGlobals mg → FnOk (PySem.Challenge.rw_ownchain_k13_no_codes_texts).prog w K mg base (L2.CX (PySem.Challenge.rw_ownchain_k13_no_codes_texts).prog w) 7 f fd ["_law_script"] sp
end My
section
open PySem PySem.W PySem.Calls PyProof.Rows
local macro_rules
  | `(tactic| refine $h:ident $args*) => do
    unless [`PySem.W.holds_open, `PySem.W.holds_openC, `PySem.W.holds_openN, `PySem.W.holds_openCN].contains h.getId do Lean.Macro.throwUnsupported
    let a := Lean.mkIdent `A
    `(tactic| refine My.imp_use (P := My.AllT) @$a (fun ($a : My.AllT) => $h $args*))
theorem My.head_ownchain_k13_no_codes_texts (A : My.AllT) : PySem.Challenge.rw_ownchain_k13_no_codes_texts.Holds := by
  w_on; o_law
  refine HandSHeadRun.head_any (r := My.hR) (q := My.hq) (H := My.hhk) (ob := My.hob) (M := 20000) (loose := My.hnames) (d := HandSHeadRun.topDef My.hR.prog 64) (kwd := []) My.hob_eq (by kernel_rfl) (fun s => by kernel_rfl) My.hrun (by kernel_rfl) (by kernel_rfl) (by kernel_rfl) (by rfl) (by first | assumption | decide +kernel) (by decide +kernel) ⟨rfl, rfl, rfl, rfl, rfl, by decide +kernel⟩ ?hw ?hc
  case hw => w_witness2
  case hc =>
    refine _root_.Z.walkM (l := PySem.Challenge.rw_ownchain_k13_no_codes_texts) (n := 63) (k := 7) (x := "_law_script") (CX := fun w => L2.CX (PySem.Challenge.rw_ownchain_k13_no_codes_texts).prog w) rfl (by decide) (by kernel_rfl) ⟨rfl, by decide, by decide⟩ ?F ?C
    case C =>
      intro w H s e s' z
      obtain ⟨_, _, _, _, _, _, _, _, _, _, _, _, z⟩ := z
      exact z.elim
    case F =>
      intro w mg f h Y G hm
      have hl : mg ("law" : PySem.Str) = some (.ref f) := by
        have e : (HandSHeadRun.topDef My.hR.prog 64).name = ("law" : PySem.Str) := by kernel_rfl
        rw [← e]
        exact hm
      exact A w mg f h Y G hl
end
set_option Elab.async false
set_option linter.all false
set_option maxRecDepth 100000
set_option maxHeartbeats 4000000
/-! Step lemmas over the hand layer's readings: each goal of a reading is turned by one lemma. -/
/-- the names that the tables of code objects bear, by place -/
class TQ where
  q : PySem.Addr → PySem.Str
namespace Z
open PySem PySem.Spec PyProof.Rows L2

abbrev kS (s : Str) : Key := Sum.inr s
abbrev kI (i : Int) : Key := Sum.inl i
/-! ### universal rules: by the values -/
section
variable {X : Cx}
def rFdv : R2 := rI (fun _ j => j ≠ 0 ∧ j.natAbs.log2 < 9000) fun i j => .int (i.fdiv j)
theorem op_fdv : OpR X (binaryOp .FloorDiv) rFdv := opI fun i j _ _ _ _ _ hc q => floordiv_int hc.1 q (.inl (PyProof.noPylong_of_log2 hc.2))
def rMod : R2 := rI (fun _ j => j ≠ 0) fun i j => .int (i.fmod j)
theorem op_md : OpR X (binaryOp .Mod) rMod := op_modN
def rMul : R2 := rI (fun i j => CMul i j ∨ CMulW i j) fun i j => .int (i * j)
theorem op_ml : OpR X (binaryOp .Mult) rMul := opI fun _ _ _ _ _ _ _ hc q => mul_int q (hc.elim CMul.ok CMulW.ok)
def rAddI : R2 := rI0 fun i j => .int (i + j)
def rAddS : R2 := fun x y H Q => ∃ i j, x = .str i ∧ y = .str j ∧ i.length + j.length ≤ sizeLine ∧ Q (.str (i ++ j)) H
def rAddU (K : PySem.W.Frag) : R2 := fun x y H Q => rAddI x y H Q ∨ rAddS x y H Q ∨ rCat x y H Q ∨ rCatA K x y H Q
theorem op_addU : OpR X (binaryOp .Add) (rAddU X.K) := OpR.or op_add (OpR.or op_add_str (OpR.or op_cat op_catA))
def rLenE (b : Bool) : R2 := fun x y H Q => ∃ p q xs ys, x = .ref p ∧ y = .ref q ∧ H p = some (.lst xs) ∧ H q = some (.lst ys) ∧ xs.length ≠ ys.length ∧ Q (.bl b) H
theorem lens_of {pins : List (Addr × Obj)} {σ : L2.St} {H : Hp} {s : Shared} {p q : Addr} {xs ys : List V} (I : Inv X pins σ H s) (h1 : H p = some (.lst xs)) (h2 : H q = some (.lst ys)) (hn : xs.length ≠ ys.length) :
    ∃ i1 i2 : Array Value, s.heap.IsList p i1 ∧ s.heap.IsList q i2 ∧ (i1.size != i2.size) = true := by
  obtain ⟨_, a, n, _, la, ea⟩ := I.lstM h1
  obtain ⟨_, b, m, _, lb, eb⟩ := I.lstM h2
  refine ⟨a.toArray, b.toArray, ⟨_, ea, rfl, n, rfl⟩, ⟨_, eb, rfl, m, rfl⟩, ?_⟩
  rw [List.size_toArray, List.size_toArray, ← la, ← lb]
  simpa using hn
theorem op_eqLen (hu : X.A.units + 64 < cLine) : OpR X (compareOp .Eq) (rLenE false) := fun pins s σ H x y v u Q I rx ry h => by
  obtain ⟨p, q, xs, ys, rfl, rfl, h1, h2, hn, k⟩ := h
  obtain rfl : v = Value.ref p := rx
  obtain rfl : u = Value.ref q := ry
  obtain ⟨i1, i2, a, b, c⟩ := lens_of I h1 h2 hn
  exact PySem.SeqAt.RcAt.lists_lengths a b c (by omega) X.prog X.w X.xe _ ⟨.bl false, H, I, rfl, k⟩
theorem op_neLen (hu : X.A.units + 64 < cLine) : OpR X (compareOp .NotEq) (rLenE true) := fun pins s σ H x y v u Q I rx ry h => by
  obtain ⟨p, q, xs, ys, rfl, rfl, h1, h2, hn, k⟩ := h
  obtain rfl : v = Value.ref p := rx
  obtain rfl : u = Value.ref q := ry
  obtain ⟨i1, i2, a, b, c⟩ := lens_of I h1 h2 hn
  exact PySem.SeqAt.RcNeAt.lists_lengths a b c (by omega) X.prog X.w X.xe _ ⟨.bl true, H, I, rfl, k⟩
def rEqU (K : PySem.W.Frag) : R2 := fun x y H Q => rEq x y H Q ∨ rEqD K x y H Q ∨ rLenE false x y H Q
theorem op_eqU (hu : X.A.units + 64 < cLine) : OpR X (compareOp .Eq) (rEqU X.K) := OpR.or op_eq (OpR.or (op_eqD hu) (op_eqLen hu))
def rNeU (K : PySem.W.Frag) : R2 := fun x y H Q => rNe x y H Q ∨ rNeD K x y H Q ∨ rLenE true x y H Q
theorem op_neU (hu : X.A.units + 64 < cLine) : OpR X (compareOp .NotEq) (rNeU X.K) := OpR.or op_ne (OpR.or (op_neD hu) (op_neLen hu))
def rSlU (K : PySem.W.Frag) : V → Option Int → Option Int → Hp → VK → Prop := fun x lo hi H Q => rSlL K x lo hi H Q ∨ rSlA K x lo hi H Q
theorem sl_U : SlR X (rSlU X.K) := SlR.or sl_list sl_tupA
def rLen (K : PySem.W.Frag) : List V → Hp → VK → Prop := fun xs H Q => ∃ x n, xs = [x] ∧ LenV K x H n ∧ Q (.int (n : Nat)) H
theorem call_len' : CallR X (.builtin "len") (rLen X.K) := call_len
theorem pe_powc {b n z : Int} {k k' : Nat} {p p' pos : Pos} (hc : CPow b n) (h : b ^ n.toNat = z) : PE X (.BinOp (.Constant (.int b) k p) .Pow (.Constant (.int n) k' p') pos) (tC (.int z)) :=
  ⟨fun pins s σ H Q I q => (pe_op op_pow pe_int pe_int).run pins s σ H Q I ⟨b, n, rfl, rfl, hc, by show Q (.int (b ^ n.toNat)) H; rw [h]; exact q⟩⟩
def rMin2 : List V → Hp → VK → Prop := fun xs H Q => ∃ i j, xs = [.int i, .int j] ∧ Q (.int (if j < i then j else i)) H
theorem call_min' (hc : X.calm = true) : CallR X (.builtin "min") rMin2 := call_min2 hc
def rMax2 : List V → Hp → VK → Prop := fun xs H Q => ∃ i j, xs = [.int i, .int j] ∧ Q (.int (if j > i then j else i)) H
theorem call_max' (hc : X.calm = true) : CallR X (.builtin "max") rMax2 := call_max2 hc
def rListOf (K : PySem.W.Frag) : List V → Hp → VK → Prop := fun xs H Q => ∃ p ys, xs = [.ref p] ∧ (SqL K H p ys ∨ SqT K H p ys) ∧ ∀ l, H l = none → Q (.ref l) (upd H l (.lst ys))
theorem call_list' : CallR X (.type "list") (rListOf X.K) := call_list_of
def rTupOf (K : PySem.W.Frag) : List V → Hp → VK → Prop := fun xs H Q => ∃ p ys, xs = [.ref p] ∧ ((SqL K H p ys ∧ ∀ l, H l = none → Q (.ref l) (upd H l (.tup ys))) ∨ (SqT K H p ys ∧ Q (.ref p) H))
theorem call_tuple' : CallR X (.type "tuple") (rTupOf X.K) := call_tuple_of
def rInt1 : List V → Hp → VK → Prop := fun xs H Q => (∃ i, xs = [.int i] ∧ Q (.int i) H) ∨ ∃ k, xs = [.bl k] ∧ Q (.int (if k then 1 else 0)) H
theorem call_int' : CallR X (.type "int") rInt1 := call_int1
def rAbs : List V → Hp → VK → Prop := fun xs H Q => ∃ i, xs = [.int i] ∧ Q (.int (if i < 0 then -i else i)) H
theorem call_abs' : CallR X (.builtin "abs") rAbs := call_abs
def rStrI : List V → Hp → VK → Prop := fun xs H Q => ∃ i, xs = [.int i] ∧ i.natAbs.log2 < 1920 ∧ Q (.str (toString i)) H
theorem call_str' : CallR X (.type "str") rStrI := call_str_int
def rIsNz : R2 := fun x y H Q => y = .non ∧ Q (.bl (decide (x = .non))) H
theorem op_isNz : OpR X (compareOp .Is) rIsNz := op_isN
def rNotNz : R2 := fun x y H Q => y = .non ∧ Q (.bl (!decide (x = .non))) H
theorem op_notNz : OpR X (compareOp .IsNot) rNotNz := op_notN
/-- a, b = a tuple or a list -/
def gUn (K : PySem.W.Frag) (n : Nat) (t : TGs) : TG := fun v σ H Q => gTup K n t v σ H Q ∨ gLst K n t v σ H Q
theorem pg_un {pos : Pos} {es : List Expr} {k : Nat} {t : TGs} {n : Nat} (hc : X.calm = true) (h : PGs X es t)
    (hn : (assignEach es X.env).length = n := by rfl) (hst : (assignEach es X.env).findIdx? (·.1) = none := by rfl) : PG X (.Tuple es k pos) (gUn X.K n t) :=
  ⟨fun pins s σ H v u Q I r hw => hw.elim (fun z => (pg_tup hc h hn hst).run pins s σ H v u Q I r z) fun z => (pg_lst hc h hn hst).run pins s σ H v u Q I r z⟩
def rIsi2 (K : PySem.W.Frag) : List V → Hp → VK → Prop := fun xs H Q => rIsi K xs H Q ∨ rIsiT K xs H Q
theorem call_isi' : CallR X (.builtin "isinstance") (rIsi2 X.K) := fun pins s σ H vs us Q I r h => h.elim (fun z => call_isi pins s σ H vs us Q I r z) (fun z => call_isiT pins s σ H vs us Q I r z)
end

def rJoin (K : PySem.W.Frag) : V → List V → Hp → VK → Prop := fun x xs H Q => ∃ a p, ∃ ys : List Str, x = .str a ∧ xs = [.ref p] ∧ (SqL K H p (ys.map V.str) ∨ SqT K H p (ys.map V.str)) ∧
  (ys.map (·.length)).sum + ys.length * a.length ≤ 16777216 ∧ Q (.str (Txt.join a ys)) H
def rWords : V → List V → Hp → VK → Prop := fun x xs H Q => ∃ a, x = .str a ∧ xs = [] ∧ a.length + 2 ≤ sizeLine ∧ rNewStrs (Txt.words a) H Q
def rSplit : V → List V → Hp → VK → Prop := fun x xs H Q => ∃ a b, x = .str a ∧ xs = [.str b] ∧ (b.length == 0) = false ∧ a.length + 2 ≤ sizeLine ∧ rNewStrs (Txt.split a b) H Q
def rUpper : V → List V → Hp → VK → Prop := fun x xs H Q => ∃ a, x = .str a ∧ xs = [] ∧ a.length ≤ 5592405 ∧ Q (.str (Txt.upper a)) H
def rRstrip : V → List V → Hp → VK → Prop := fun x xs H Q => ∃ a, x = .str a ∧ xs = [] ∧ a.length ≤ sizeLine ∧ Q (.str (Txt.rstrip a)) H
def rStrip : V → List V → Hp → VK → Prop := fun x xs H Q => ∃ a, x = .str a ∧ xs = [] ∧ a.length ≤ sizeLine ∧ Q (.str (Txt.strip a)) H
theorem sqT_mk {K : PySem.W.Frag} {H : Hp} {a : Addr} {xs : List V} {its : Array Value} {n : Nat} {od : Option Addr} {sl : Array (Option Value)} (l : K.lookup a = some ⟨.type "tuple", od, .seq its n, sl⟩) (hz : its.size ≤ 1000) (v : Vals xs its.toList) : SqT K H a xs :=
  .inr ⟨_, its, n, l, rfl, rfl, Nat.le_trans hz (by decide), v⟩

theorem at_ofN {α : Type} {xs : List α} {z : Int} {j : Nat} {v : α} (e : z = (j : Int)) (h : xs[j]? = some v) : atI xs z = some v := by
  rw [e]
  exact atI_nat h
/-! ### own functions without arguments, methods, made instances: what they may let out at the slots -/
section
open PySem.Calls
variable {X : Cx} {CX : CXT} {k : Nat} {f C : Addr} {fd : FuncData} {ps : List Str} {sp : Sp} {E : L2.St → XK} {x m : Str} {p pos apos : Pos} {e o : Expr} {es : List Expr} {ta : TE} {t : TA}
theorem pe_call0Z (F : FnOk X.prog X.w X.K X.mg X.base CX k f fd ps sp) (hr : Room k X.A) (hg : Gl X x) (hm : X.mg x = some (.ref f)) (hk : PySem.W.keepIn X.K (.ref f) = true) (hb : Binds X.K fd ps []) (hx : ∀ σ, PassesAt CX X σ (E σ))
    (hdb : (x == ("__debug__" : Str)) = false := by decide) : PE X (.Call (.Name x p) [] [] pos) (tCallS sp E tNil) := by
  refine ⟨fun pins s σ H Q I h => ?_⟩
  refine wpAny_Call_Name_kw (ld_glob I hg hm ?_ hdb)
  exact PySem.W.callWith_K0 I.kIn hk (run_fnS (us := []) F hr hb (hx σ) I .nil h)
def zSelf (C : Addr) (m : Str) (x : V) (H : Hp) (N : Prop) : Prop := ∃ a dx fs, x = .ref a ∧ H a = some (.ins C dx fs) ∧ fs.lookup m = none ∧ N
def tMethZ (C : Addr) (m : Str) (sp : Sp) (E : L2.St → XK) (ta : TE) (t : TA) : TE := fun σ H Q => ta σ H fun x H1 => ∃ a dx fs, x = .ref a ∧ H1 a = some (.ins C dx fs) ∧ fs.lookup m = none ∧ t σ H1 fun vs H2 => sp (x :: vs) H2 Q (E σ)
theorem pe_methZ {pl : Sem Bool} (he : PE X o ta) (c : Cls X.K C) (hm : Meth X.K C m f) (F : FnOk X.prog X.w X.K X.mg X.base CX k f fd ps sp) (hr : Room k X.A) (hb : Binds X.K fd ps []) (hx : ∀ σ, PassesAt CX X σ (E σ)) (ha : PA X (e :: es) t)
    (hst : starEach (e :: es) X.env = (false, eval e X.env) :: starEach es X.env := by rfl) (hpl : (backTo pos (starEach es X.env)).any (·.1) = false := by rfl)
    (ht : eval (.Call (.Attribute o m apos) (e :: es) [] pos) X.env = (do
      let ov ← eval o X.env
      standAt apos.atName
      let (f, first) ← holding [ov] (getMethod ov m pl)
      callWith pos f first (backTo pos (starEach (e :: es) X.env)) (backToKw pos (keywordEach [] X.env))) := by rfl) :
    PE X (.Call (.Attribute o m apos) (e :: es) [] pos) (tMethZ C m sp E ta t) := by
  refine ⟨fun pins s σ H Q I h => ?_⟩
  refine PySem.W.methodCall_KW (pl := pl) (thn (he.run pins s σ H _ I h) fun u s1 ⟨x, H1, I1, rx, a, dx, fs, ex, ea, l, q⟩ => ?_) ht
  subst ex
  obtain rfl : u = Value.ref a := rx
  refine getmeth_ok I1 ea c hm l ?_
  refine PySem.W.callWith_K (first := [.ref a]) (h₀ := X.base) I.ok.mod.kin hm.kp (thn (ha.run pos pins s1 σ H1 _ I1 q) fun us s2 ⟨vs, H2, I2, r, q2⟩ => ⟨I2.kIn, ?_⟩) hst hpl
  exact run_fnS (us := .ref a :: us) (vs := .ref a :: vs) F hr hb (hx σ) I2 (.cons rfl r) q2
theorem pe_meth0Z {pl : Sem Bool} (he : PE X o ta) (c : Cls X.K C) (hm : Meth X.K C m f) (F : FnOk X.prog X.w X.K X.mg X.base CX k f fd ps sp) (hr : Room k X.A) (hb : Binds X.K fd ps []) (hx : ∀ σ, PassesAt CX X σ (E σ))
    (ht : eval (.Call (.Attribute o m apos) [] [] pos) X.env = (do
      let ov ← eval o X.env
      standAt apos.atName
      let (f, first) ← holding [ov] (getMethod ov m pl)
      callWith pos f first (backTo pos (starEach [] X.env)) (backToKw pos (keywordEach [] X.env))) := by rfl) :
    PE X (.Call (.Attribute o m apos) [] [] pos) (tMethZ C m sp E ta tNil) := by
  refine ⟨fun pins s σ H Q I h => ?_⟩
  refine PySem.W.methodCall_KW (pl := pl) (thn (he.run pins s σ H _ I h) fun u s1 ⟨x, H1, I1, rx, a, dx, fs, ex, ea, l, q⟩ => ?_) ht
  subst ex
  obtain rfl : u = Value.ref a := rx
  refine getmeth_ok I1 ea c hm l ?_
  exact PySem.W.callWith_K0 (first := [.ref a]) I1.kIn hm.kp (run_fnS (us := [.ref a]) (vs := [.ref a]) F hr hb (hx σ) I1 (.cons rfl .nil) q)
def tMakeZ (C : Addr) (sp : Sp) (E : L2.St → XK) (t : TA) : TE := fun σ H Q => t σ H fun vs H1 => ∀ x dx, H1 x = none → H1 dx = none → dx ≠ x →
  sp (.ref x :: vs) (upd (upd H1 dx (.own x)) x (.ins C dx [])) (fun v H2 => v = .non ∧ Q (.ref x) H2) (E σ)
theorem run_makeZ {pins : List (Addr × Obj)} {σ : L2.St} {H : Hp} {s : Shared} {Q : VK} {us : List Value} {vs : List V} {E : XK} (M : Mk X.K C f) (F : FnOk X.prog X.w X.K X.mg X.base CX k f fd ps sp) (hr : Room (k + 1) X.A) (hb : Binds X.K fd ps [])
    (hx : PassesAt CX X σ E) (I : Inv X pins σ H s) (r : Vals vs us)
    (h : ∀ x dx, H x = none → H dx = none → dx ≠ x → sp (.ref x :: vs) (upd (upd H dx (.own x)) x (.ins C dx [])) (fun v H2 => v = .non ∧ Q (.ref x) H2) E) :
    wpAny (model X.prog X.w) X.A (call (.ref C) us) (EP X pins σ Q) X.xe s := by
  have hq := h (s.heap.objs.size + 1) s.heap.objs.size (I.hok.fresh (Nat.le_succ _)) (I.hok.fresh (Nat.le_refl _)) (Nat.ne_of_lt (Nat.lt_succ_self _))
  have I2 := Inv.made (C := C) I
  have r2 : Vals (V.ref (s.heap.objs.size + 1) :: vs) (Value.ref (s.heap.objs.size + 1) :: us) := .cons rfl r
  have hl : (Value.ref (s.heap.objs.size + 1) :: us).length = ps.length := by rw [← r2.length]; exact F.len _ _ _ _ hq
  have b := hb _ (Value.ref (s.heap.objs.size + 1) :: us) I2.kIn (by rw [List.append_nil]; exact hl)
  rw [List.append_nil] at b
  refine wpAny_call (make_map (f := f) I.kIn M.makes M.init (beq_iff_eq.mp M.fn) (codeAny_mono (F.run _ X.stack _ _ ⟨Value.ref (s.heap.objs.size + 1) :: us, []⟩ (Value.ref (s.heap.objs.size + 1) :: us) _ _ E (hr.make C us [])
    (I2.env0.make C us []) b r2 hq) fun r s' hq' => ?_))
  cases r with
  | error e => exact hx pins _ _ e s' I2 hq'
  | ok fl =>
    cases fl with
    | ret u =>
      obtain ⟨v, H', I3, rv, ev, q3⟩ := I2.after hq'
      subst ev
      exact ⟨rv, ⟨V.ref (s.heap.objs.size + 1), H', I3, rfl, q3⟩⟩
    | next => exact False.elim hq'
    | brk => exact False.elim hq'
    | cont => exact False.elim hq'
theorem pe_makeZ (M : Mk X.K C f) (F : FnOk X.prog X.w X.K X.mg X.base CX k f fd ps sp) (hr : Room (k + 1) X.A) (hg : Gl X x) (hm : X.mg x = some (.ref C)) (hb : Binds X.K fd ps []) (hx : ∀ σ, PassesAt CX X σ (E σ))
    (ha : PA X (e :: es) t) (hdb : (x == ("__debug__" : Str)) = false := by decide) (he : starEach (e :: es) X.env = (false, eval e X.env) :: starEach es X.env := by rfl) (hpl : (backTo pos (starEach es X.env)).any (·.1) = false := by rfl) :
    PE X (.Call (.Name x p) (e :: es) [] pos) (tMakeZ C sp E t) := by
  refine ⟨fun pins s σ H Q I h => ?_⟩
  refine wpAny_Call_Name_kw (ld_glob I hg hm ?_ hdb)
  refine PySem.W.callWith_K (h₀ := X.base) I.ok.mod.kin M.kp (thn (ha.run pos pins s σ H _ I h) fun us s1 ⟨vs, H1, I1, r, q⟩ => ⟨I1.kIn, ?_⟩) he hpl
  exact run_makeZ M F hr hb (hx σ) I1 r q
theorem pe_make0Z (M : Mk X.K C f) (F : FnOk X.prog X.w X.K X.mg X.base CX k f fd ps sp) (hr : Room (k + 1) X.A) (hg : Gl X x) (hm : X.mg x = some (.ref C)) (hb : Binds X.K fd ps []) (hx : ∀ σ, PassesAt CX X σ (E σ))
    (hdb : (x == ("__debug__" : Str)) = false := by decide) : PE X (.Call (.Name x p) [] [] pos) (tMakeZ C sp E tNil) := by
  refine ⟨fun pins s σ H Q I h => ?_⟩
  refine wpAny_Call_Name_kw (ld_glob I hg hm ?_ hdb)
  exact PySem.W.callWith_K0 I.kIn M.kp (run_makeZ (us := []) M F hr hb (hx σ) I .nil h)
/-- a statement that is never come to -/
def zNever : TS := fun _ _ _ => False
theorem ps_zNever {st : Stmt} : PS X st zNever := ⟨fun _ _ _ _ _ _ h => h.elim⟩
end
theorem lk_eq {f : Str} {v : V} {r : List (Str × V)} : List.lookup f ((f, v) :: r) = some v := by simp [List.lookup]
theorem lk_ne {f g : Str} {v : V} {r : List (Str × V)} (h : ¬ f = g) : List.lookup f ((g, v) :: r) = List.lookup f r := by
  have : (f == g) = false := by simpa using h
  simp [List.lookup, this]
theorem pu_eq {f : Str} {y v : V} {r : List (Str × V)} : putF f y ((f, v) :: r) = (f, y) :: r := if_pos rfl
theorem pu_ne {f g : Str} {y v : V} {r : List (Str × V)} (h : ¬ g = f) : putF f y ((g, v) :: r) = (g, v) :: putF f y r := if_neg h
theorem pu_nil {f : Str} {y : V} : putF f y [] = [(f, y)] := rfl

/-! ### own exceptions -/
section
open PySem.Calls
variable {X : Cx} {e : Expr} {es : List Expr} {ta : TA} {p1 p2 pos : Pos} {D : Addr} {n : Str}
/-- D.__init__(self, ..), D an own class over ValueError without an __init__ of its own -/
theorem pe_cinit {pl : Sem Bool} (hg : Gl X n) (hm : X.mg n = some (.ref D)) (hr : PySem.W.readsIn X.K D (.type "type") = true) (hs : PySem.W.specialIn X.K (.ref D) "__getattribute__" = some (some (.builtin "type.__getattribute__")))
    (hv : PySem.W.findCls X.K (.ref D) (.type "type") "__init__" = some (.val (.builtin "ValueError.__init__"))) (ha : PA X (e :: es) ta) (hdb : (n == ("__debug__" : Str)) = false := by decide)
    (hc : eval (.Call (.Attribute (.Name n p1) "__init__" p2) (e :: es) [] pos) X.env = (do
      let ov ← eval (.Name n p1) X.env
      standAt p2.atName
      let (f, first) ← holding [ov] (getMethod ov "__init__" pl)
      callWith pos f first (backTo pos (starEach (e :: es) X.env)) (backToKw pos (keywordEach [] X.env))) := by rfl)
    (he : starEach (e :: es) X.env = (false, eval e X.env) :: starEach es X.env := by rfl) (hpl : (backTo pos (starEach es X.env)).any (·.1) = false := by rfl) :
    PE X (.Call (.Attribute (.Name n p1) "__init__" p2) (e :: es) [] pos) (tVeI X.K ta) := by
  refine ⟨fun pins s σ H Q I h => ?_⟩
  refine PySem.W.methodCall_KW (ld_glob I hg hm ?_ hdb) hc
  refine PySem.W.method_cls I.kIn hs (PySem.W.cls_value I.kIn hr hv (by decide +kernel) ?_)
  show wpAny _ _ (callWith pos (Value.builtin "ValueError.__init__") [] (backTo pos (starEach (e :: es) X.env)) []) _ _ _
  refine PyProof.Rows.callWith_method1 (thn (ha.run pos pins _ σ H _ (I.tok _) h) fun us s1 ⟨vs, H1, I1, r1, a, C, ws, ev, hl, T, ea, q⟩ => ?_) he hpl
  subst ev
  cases r1 with
  | @cons _ u0 _ ur ra rw' =>
    obtain rfl : u0 = Value.ref a := ra
    have hlen : ur.length ≤ sizeLine := by
      rw [← Paired.length rw', sizeLine_eq]
      omega
    exact oinit_ok T I1 ea hlen fun s' J => ⟨.non, H1, J, rfl, q⟩
/-- raise C(..) with an __init__ of its own -/
def sRaiseO (C : Addr) (sp : Sp) (W : WX) (ta : TA) : TS := fun _ σ H => tMkO C sp [] ta σ H fun cls d H' => W cls d σ H'
theorem ps_raiseO {CX : CXT} {W : WX} {x : Str} {C fI : Addr} {k : Nat} {fd : FuncData} {ps : List Str} {sp : Sp} {p pos' : Pos} (hcalm : X.calm = true) (tk : Takes X W) (T : OexC X.K C) (iC : PySem.W.findIn X.K (.ref C) "__init__" = some (some (.ref fI))) (tI : PySem.W.typeIn X.K (.ref fI) = some (.type "function"))
    (F1 : FnOk X.prog X.w X.K X.mg X.base CX k fI fd ps sp) (hr : Room (k + 1) X.A) (hb : Binds X.K fd ps []) (hx : Passes CX X (fun _ _ _ => False)) (hg : Gl X x) (hm : X.mg x = some (.ref C)) (ha : PA X (e :: es) ta)
    (hdb : (x == ("__debug__" : Str)) = false := by decide) (he : starEach (e :: es) X.env = (false, eval e X.env) :: starEach es X.env := by rfl) (hpl : (backTo pos (starEach es X.env)).any (·.1) = false := by rfl) :
    PS X (.Raise (some (.Call (.Name x p) (e :: es) [] pos)) none pos') (sRaiseO C sp W ta) :=
  ps_raise hcalm tk (pmk_oex T iC tI F1 hr hb .nil hx hg hm ha hdb he hpl)
theorem passF {X : Cx} : Passes (L2.CX X.prog X.w) X (fun _ _ _ => False) := fun pins σ H s e s' I c => passL pins σ H s e s' I c
/-- an error of the class at S: does «except C» name it -/
theorem exm_mk {K : PySem.W.Frag} {S C : Addr} {b : Bool} (h1 : PySem.W.subIn K (.ref C) (.type "BaseException") = some true) (h2 : PySem.W.isClsIn K C = true) (h3 : PySem.W.typeIn K (.ref C) = some (.type "type")) (h4 : PySem.W.subIn K (.ref S) (.ref C) = some b) :
    PySem.W.exmOne K (.ref S) (.ref C) = some b := by
  have e1 : (PySem.W.subIn K (.ref C) (.type "BaseException") == some true) = true := by rw [h1] <;> rfl
  have e2 : ((PySem.W.clsIn K C).isSome && PySem.W.typeIn K (.ref C) == some (.type "type")) = true := by
    have h2' : (PySem.W.clsIn K C).isSome = true := h2
    rw [h2', h3] <;> rfl
  show (if (PySem.W.subIn K (.ref C) (.type "BaseException") == some true) = true then (if ((PySem.W.clsIn K C).isSome && PySem.W.typeIn K (.ref C) == some (.type "type")) = true then PySem.W.subIn K (.ref S) (.ref C) else none) else none) = some b
  rw [if_pos e1, if_pos e2]
  exact h4
def sTryOnly (K : PySem.W.Frag) (c : Value) (tb : WX → TS) (ts : Addr → Value → Option Addr → TS) (W : WX) : TS := fun D σ H => tb (wOnly K c ts W D) D σ H
/-- raise C('m'), C without an __init__ of its own -/
def sRaiseN (C : Addr) (W : WX) : TS := fun _ σ H => W (.ref C) none σ H
/-- try: .. except x as n: .. -/
def sTryAs (K : PySem.W.Frag) (c : Value) (i : Nat) (tb : WX → TS) (ts : Addr → Value → Option Addr → TS) (W : WX) : TS := fun D σ H => tb (wAs K c i ts W D) D σ H
end
def zPutF (K : PySem.W.Frag) (x : V) (f : Str) (y : V) (H : Hp) (N : Hp → Prop) : Prop := ∃ a C dx fs, x = .ref a ∧ H a = some (.ins C dx fs) ∧ Cls K C ∧ NoAttr K C f ∧ fs.length < 1000 ∧ N (upd H a (.ins C dx (putF f y fs)))
def zMade (C : Addr) (H : Hp) (sp : V → Hp → Prop) : Prop := ∀ x dx, H x = none → H dx = none → dx ≠ x → sp (.ref x) (upd (upd H dx (.own x)) x (.ins C dx []))
/-! ### parts of readings by name -/
def zB (x : V) (H : Hp) (Q : Bool → Hp → Prop) : Prop := ∃ k, x = .bl k ∧ Q k H
def zTup (xs : List V) (H : Hp) (Q : VK) : Prop := xs.length ≤ sizeLine ∧ ∀ p, H p = none → Q (.ref p) (upd H p (.tup xs))
def zLst (xs : List V) (H : Hp) (Q : VK) : Prop := xs.length ≤ sizeLine ∧ ∀ p, H p = none → Q (.ref p) (upd H p (.lst xs))
def zIf (k : Bool) (A B : Prop) : Prop := if k = true then A else B
def zDGet (x y : V) (H : Hp) (Q : VK) : Prop := ∃ a v, x = .ref a ∧ DGet H a y (some v) ∧ Q v H
def zDIn (y x : V) (H : Hp) (Q : VK) : Prop := ∃ a o, x = .ref a ∧ DGet H a y o ∧ Q (.bl o.isSome) H
def zDNotIn (y x : V) (H : Hp) (Q : VK) : Prop := ∃ a o, x = .ref a ∧ DGet H a y o ∧ Q (.bl (!o.isSome)) H
def zDPut (x y v : V) (H : Hp) (N : Hp → Prop) : Prop := ∃ a H4, x = .ref a ∧ DPut H a y v H4 ∧ N H4
def zFld (K : PySem.W.Frag) (x : V) (f : Str) (H : Hp) (Q : VK) : Prop := ∃ a C dx fs v, x = .ref a ∧ H a = some (.ins C dx fs) ∧ Cls K C ∧ NoAttr K C f ∧ fs.lookup f = some v ∧ Q v H
def zTy (K : PySem.W.Frag) (T : String) (x : V) (H : Hp) (N : Prop) : Prop := tyV K T x H ∧ N
def zGTup (K : PySem.W.Frag) (n : Nat) (t : TGs) (v : V) (σ : L2.St) (H : Hp) (Q : L2.St → Hp → Prop) : Prop := ∃ a xs, v = .ref a ∧ (SqT K H a xs ∨ SqL K H a xs) ∧ xs.length = n ∧ t xs σ H Q

section
variable {K : PySem.W.Frag} {σ : L2.St} {H : Hp} {Q : VK} {QB : Bool → Hp → Prop} {QA : List V → Hp → Prop} {N b c : L2.St → Hp → Prop} {r : VK} {ta tb tc te : TE} {t u : TT} {tt tu : TS} {tA : TA} {g : TG} {v w x y : V} {i j : Int} {n : Nat} {p q a : Addr} {xs ys : List V} {rr rr' : R2} {k : Bool} {A B : Prop}

/-! ### statements -/
theorem s_seq (h : tt ⟨tu ⟨N, r, b, c⟩, r, b, c⟩ σ H) : tSeq tt tu ⟨N, r, b, c⟩ σ H := h
theorem s_cut (Mid : L2.St → Hp → Prop) (h1 : tt ⟨Mid, r, b, c⟩ σ H) (h2 : ∀ σ' H', Mid σ' H' → tu ⟨N, r, b, c⟩ σ' H') : C8.tCut tt tu ⟨N, r, b, c⟩ σ H := ⟨Mid, h1, h2⟩
theorem s_next (h : N σ H) : tNext ⟨N, r, b, c⟩ σ H := h
theorem s_break (h : b σ H) : tBreak ⟨N, r, b, c⟩ σ H := h
theorem s_cont (h : c σ H) : tCont ⟨N, r, b, c⟩ σ H := h
theorem s_ret (h : te σ H r) : tRet te ⟨N, r, b, c⟩ σ H := h
theorem s_retN (h : r .non H) : tRetN ⟨N, r, b, c⟩ σ H := h
theorem s_drop (h : te σ H fun _ H1 => N σ H1) : tDrop te ⟨N, r, b, c⟩ σ H := h
theorem s_set (h : te σ H fun v H1 => N (σ.set n (some v)) H1) : tAsg te (gName n) ⟨N, r, b, c⟩ σ H := h
theorem s_asg (h : te σ H fun v H1 => g v σ H1 N) : tAsg te g ⟨N, r, b, c⟩ σ H := h
theorem s_if (h : t σ H fun k H1 => zIf k (tt ⟨N, r, b, c⟩ σ H1) (tu ⟨N, r, b, c⟩ σ H1)) : tIfS t tt tu ⟨N, r, b, c⟩ σ H := h
theorem s_dput {td ty tv : TE} (h : tv σ H fun v H1 => td σ H1 fun x H2 => ty σ H2 fun y H3 => zDPut x y v H3 fun H4 => N σ H4) : sDPut td ty tv ⟨N, r, b, c⟩ σ H := h
/-! ### targets -/
theorem s_gname {NN : L2.St → Hp → Prop} (h : NN (σ.set n (some v)) H) : gName n v σ H NN := h
theorem s_gsub {to ti : TE} {ts : TSet} {NN : L2.St → Hp → Prop} (h : to σ H fun o H1 => ti σ H1 fun i H2 => ts o i v H2 fun H3 => NN σ H3) : gSub to ti ts v σ H NN := h
theorem s_gtup {tg : TGs} {NN : L2.St → Hp → Prop} (hs : SqT K H a xs) (hl : xs.length = n) (h : tg xs σ H NN) : gTup K n tg (.ref a) σ H NN := ⟨a, xs, rfl, hs, hl, h⟩
theorem s_gnil {NN : L2.St → Hp → Prop} (h : NN σ H) : gNil [] σ H NN := ⟨rfl, h⟩
theorem s_gcons {t1 : TG} {t2 : TGs} {NN : L2.St → Hp → Prop} (h : t1 v σ H fun σ' H' => t2 xs σ' H' NN) : gCons t1 t2 (v :: xs) σ H NN := ⟨v, xs, rfl, h⟩
/-! ### expressions -/
theorem s_var (h : σ[n]? = some (some v)) (q : Q v H) : tVar n σ H Q := ⟨v, h, q⟩
theorem s_c (q : Q v H) : tC v σ H Q := q
theorem s_op (h : ta σ H fun x H1 => tb σ H1 fun y H2 => rr x y H2 Q) : tOp rr ta tb σ H Q := h
theorem s_un {ru : V → Hp → VK → Prop} (h : ta σ H fun x H1 => ru x H1 Q) : tUn ru ta σ H Q := h
theorem s_cb {rc : List V → Hp → VK → Prop} (h : tA σ H fun vs H1 => rc vs H1 Q) : tCB rc tA σ H Q := h
theorem s_nil (h : QA [] H) : tNil σ H QA := h
theorem s_cons {tr : TA} (h : ta σ H fun x H1 => tr σ H1 fun xs H2 => QA (x :: xs) H2) : tCons ta tr σ H QA := h
theorem s_call {sp : Sp} {E : XK} (h : tA σ H fun vs H1 => sp vs H1 Q E) : tCall sp [] E tA σ H Q := by
  show tA σ H fun vs H1 => sp (vs ++ []) H1 Q E
  simp only [List.append_nil]
  exact h
theorem s_tup (h : tA σ H fun xs H1 => zTup xs H1 Q) : tTup tA σ H Q := h
theorem s_lst (h : tA σ H fun xs H1 => zLst xs H1 Q) : tLst tA σ H Q := h
theorem s_ztup (h : Nat.ble xs.length sizeLine = true) (h2 : ∀ p, H p = none → Q (.ref p) (upd H p (.tup xs))) : zTup xs H Q := ⟨Nat.le_of_ble_eq_true h, h2⟩
theorem s_zlst (h : Nat.ble xs.length sizeLine = true) (h2 : ∀ p, H p = none → Q (.ref p) (upd H p (.lst xs))) : zLst xs H Q := ⟨Nat.le_of_ble_eq_true h, h2⟩
theorem s_test (h : te σ H fun x H1 => zB x H1 QB) : tTest te σ H QB := h
theorem s_B (h : te σ H fun x H1 => zB x H1 QB) : tB te σ H QB := h
theorem s_zB (h : QB k H) : zB (.bl k) H QB := ⟨k, rfl, h⟩
theorem s_and (h : t σ H fun k H1 => zIf k (u σ H1 QB) (QB false H1)) : tAnd t u σ H QB := h
theorem s_or (h : t σ H fun k H1 => zIf k (QB true H1) (u σ H1 QB)) : tOr t u σ H QB := h
theorem s_not (h : t σ H fun k H1 => QB (!k) H1) : tNot t σ H QB := h
theorem s_chain (h : ta σ H fun x H1 => tb σ H1 fun y H2 => rr x y H2 fun z H3 => zB z H3 fun k H3 => zIf k (tc σ H3 fun w H4 => rr' y w H4 Q) (Q (.bl false) H3)) : tChain rr rr' ta tb tc σ H Q := h
theorem s_ifE (h : t σ H fun k H1 => zIf k (ta σ H1 Q) (tb σ H1 Q)) : tIf t ta tb σ H Q := h
theorem s_bm {T : String} {rm : V → List V → Hp → VK → Prop} (h : ta σ H fun x H1 => zTy K T x H1 (tA σ H1 fun xs H2 => rm x xs H2 Q)) : tBM K T rm ta tA σ H Q := h
theorem s_bm0 {T : String} {rm : V → List V → Hp → VK → Prop} (h : ta σ H fun x H1 => zTy K T x H1 (rm x [] H1 Q)) : tBM0 K T rm ta σ H Q := h
theorem s_fld {f : Str} (h : ta σ H fun x H1 => zFld K x f H1 Q) : tFld K ta f σ H Q := h
theorem s_meth {C : Addr} {m : Str} {sp : Sp} {W : WX} (h : ta σ H fun x H1 => zSelf C m x H1 (tA σ H1 fun vs H2 => sp (x :: vs) H2 Q (WE W σ))) : tMethZ C m sp (WE W) ta tA σ H Q := h
theorem s_zself {C dx : Addr} {m : Str} {fs : List (Str × V)} {N1 : Prop} (h1 : H p = some (.ins C dx fs)) (h2 : fs.lookup m = none) (h : N1) : zSelf C m (.ref p) H N1 := ⟨p, dx, fs, rfl, h1, h2, h⟩
theorem s_make {C : Addr} {sp : Sp} {W : WX} (h : tA σ H fun vs H1 => zMade C H1 fun x H2 => sp (x :: vs) H2 (fun v H2 => v = .non ∧ Q x H2) (WE W σ)) : tMakeZ C sp (WE W) tA σ H Q := h
theorem s_fldset {f : Str} (h : tb σ H fun y H1 => ta σ H1 fun x H2 => zPutF K x f y H2 fun H3 => N σ H3) : sFld K ta tb f ⟨N, r, b, c⟩ σ H := h
theorem s_zputF {C dx : Addr} {fs : List (Str × V)} {f : Str} {N1 : Hp → Prop} (h1 : H p = some (.ins C dx fs)) (hc : Cls K C) (hn : NoAttr K C f) (hl : fs.length < 1000) (h : N1 (upd H p (.ins C dx (putF f y fs)))) : zPutF K (.ref p) f y H N1 := ⟨p, C, dx, fs, rfl, h1, hc, hn, hl, h⟩
def zRev (K : PySem.W.Frag) (x : V) (H : Hp) (Q : VK) : Prop := ∃ a xs, x = .ref a ∧ SqL K H a xs ∧ ∀ p, H p = none → Q (.ref p) (upd H p (.lst xs.reverse))
theorem s_rev (h : ta σ H fun x H1 => zRev K x H1 Q) : tRevL K ta σ H Q := h
theorem s_zrev (h1 : SqL K H p xs) (h : ∀ a, H a = none → Q (.ref a) (upd H a (.lst xs.reverse))) : zRev K (.ref p) H Q := ⟨p, xs, rfl, h1, h⟩
theorem s_pop {z : V} (h1 : H p = some (.lst xs)) (h2 : xs[xs.length - 1]? = some z) (h : Q z (upd H p (.lst xs.dropLast))) : rPop (.ref p) [] H Q := ⟨p, xs, z, rfl, rfl, h1, h2, h⟩
theorem s_reverse (h1 : H p = some (.lst xs)) (h : Q .non (upd H p (.lst xs.reverse))) : rReverse (.ref p) [] H Q := ⟨p, xs, rfl, rfl, h1, h⟩
def zMkO (C : Addr) (sp : Sp) (vs : List V) (H1 : Hp) (Q : XK) : Prop := vs.length ≤ 1000 ∧ ∀ a, H1 a = none → sp (.ref a :: (vs ++ [])) (upd H1 a (exo a C none))
  (fun v H2 => v = .non ∧ ∃ (d : Addr) (fs : List (Str × V)), H2 a = some (exo a C (some d)) ∧ H2 d = some (exd d fs) ∧ H1 d = none ∧ Q (.ref C) (some d) (upd (del H2 a) d (.xd fs))) (fun _ _ _ => False)
theorem s_raiseO {C : Addr} {sp : Sp} {W : WX} (h : tA σ H fun vs H1 => zMkO C sp vs H1 fun cls d H' => W cls d σ H') : sRaiseO C sp W tA ⟨N, r, b, c⟩ σ H := h
theorem s_tryAs {i : Nat} {cc : Value} {tbw : WX → TS} {ts : Addr → Value → Option Addr → TS} {W : WX} (h : tbw (wAs K cc i ts W ⟨N, r, b, c⟩) ⟨N, r, b, c⟩ σ H) : sTryAs K cc i tbw ts W ⟨N, r, b, c⟩ σ H := h
theorem s_raiseN {C : Addr} {W : WX} (h : W (.ref C) none σ H) : sRaiseN C W ⟨N, r, b, c⟩ σ H := h
theorem s_tryOnly {cc : Value} {tbw : WX → TS} {ts : Addr → Value → Option Addr → TS} {W : WX} (h : tbw (wOnly K cc ts W ⟨N, r, b, c⟩) ⟨N, r, b, c⟩ σ H) : sTryOnly K cc tbw ts W ⟨N, r, b, c⟩ σ H := h
theorem s_all {bs : List Bool} (h1 : SqL K H p (bs.map V.bl)) (h : Q (.bl (bs.all id)) H) : rAll K [.ref p] H Q := ⟨p, bs, rfl, h1, h⟩
def zVeI (K : PySem.W.Frag) (vs : List V) (H1 : Hp) (Q : VK) : Prop := ∃ (a C : Addr) (ws : List V), vs = .ref a :: ws ∧ ws.length ≤ 1000 ∧ OexC K C ∧ H1 a = some (exo a C none) ∧ Q .non H1
theorem s_vei (h : tA σ H fun vs H1 => zVeI K vs H1 Q) : tVeI K tA σ H Q := h
def zOst (K : PySem.W.Frag) (f : Str) (x y : V) (H2 : Hp) (NN : Hp → Prop) : Prop := ∃ a C : Addr, x = .ref a ∧ OexC K C ∧ PySem.W.findIn K (.ref C) f = some none ∧
  ((H2 a = some (exo a C none) ∧ ∀ dx, H2 dx = none → dx ≠ a → NN (upd (upd H2 dx (exd dx [(f, y)])) a (exo a C (some dx)))) ∨
    ∃ (dx : Addr) (fs : List (Str × V)), H2 a = some (exo a C (some dx)) ∧ H2 dx = some (exd dx fs) ∧ fs.length ≤ 900 ∧ NN (upd H2 dx (exd dx ((f, y) :: fs))))
theorem s_ost {f : Str} (h : tb σ H fun y H1 => ta σ H1 fun x H2 => zOst K f x y H2 fun H3 => N σ H3) : tOst K f ta tb ⟨N, r, b, c⟩ σ H := h
def zXf (a : Addr) (cls : Value) (d : Option Addr) (C : Addr) (f : Str) (x : V) (H1 : Hp) (Q : VK) : Prop := x = .ref a ∧ cls = .ref C ∧ ∃ (dd : Addr) (fs : List (Str × V)) (v : V), d = some dd ∧ H1 dd = some (.xd fs) ∧ fs.lookup f = some v ∧ Q v H1
theorem s_xf {cls : Value} {d : Option Addr} {C : Addr} {f : Str} (h : te σ H fun x H1 => zXf a cls d C f x H1 Q) : tXf a cls d C f te σ H Q := h
theorem s_rep (h1 : H p = some (.lst xs)) (h2 : -(2 ^ 63) ≤ i ∧ i < 2 ^ 63) (h3 : xs.length * i.toNat ≤ sizeLine) (h : ∀ a, H a = none → Q (.ref a) (upd H a (.lst (List.replicate i.toNat xs).flatten))) : rRep (.ref p) (.int i) H Q := ⟨p, i, xs, rfl, rfl, h1, h2.1, h2.2, h3, h⟩
theorem s_dget2 {td ty tx : TE} (h : td σ H fun x H1 => ∃ a, x = .ref a ∧ IsD H1 a ∧ ty σ H1 fun y H2 => tx σ H2 fun z H3 => ∃ o, DGet H3 a y o ∧ Q (o.getD z) H3) : tDGet2 td ty tx σ H Q := h
theorem s_dget {td ty : TE} (h : td σ H fun x H1 => ty σ H1 fun y H2 => zDGet x y H2 Q) : tDGet td ty σ H Q := h
theorem s_din {td ty : TE} (h : ty σ H fun y H1 => td σ H1 fun x H2 => zDIn y x H2 Q) : tDIn ty td σ H Q := h
theorem s_dnotin {td ty : TE} (h : ty σ H fun y H1 => td σ H1 fun x H2 => zDNotIn y x H2 Q) : tDNotIn ty td σ H Q := h
theorem s_dnew (h : ∀ p, H p = none → Q (.ref p) (upd H p (.dK []))) : tDNewK σ H Q := h
theorem s_disp {trs : List (TE × TE)} (h : ∀ p, H p = none → tPairs trs σ (upd H p (.dK [])) fun ps H2 => H2 p = some (.dK []) ∧ ∃ kvs : List (Key × V), ps = kvs.map (fun kv => (kV kv.1, kv.2)) ∧ kvs.length ≤ 15 ∧ Q (.ref p) (upd H2 p (.dK (mergeK [] kvs)))) : tDisp trs σ H Q := h
theorem s_pnil {QP : List (V × V) → Hp → Prop} (h : QP [] H) : tPairs [] σ H QP := h
theorem s_pcons {tk tv : TE} {trs : List (TE × TE)} {QP : List (V × V) → Hp → Prop} (h : tk σ H fun x H1 => tv σ H1 fun y H2 => tPairs trs σ H2 fun ps H3 => QP ((x, y) :: ps) H3) : tPairs ((tk, tv) :: trs) σ H QP := h
theorem s_andV (h : ta σ H fun x H1 => zB x H1 fun k H1 => zIf k (tb σ H1 Q) (Q (.bl false) H1)) : tAndV ta tb σ H Q := h
theorem s_orV (h : ta σ H fun x H1 => zB x H1 fun k H1 => zIf k (Q (.bl true) H1) (tb σ H1 Q)) : tOrV ta tb σ H Q := h
theorem s_notV (h : ta σ H fun x H1 => zB x H1 fun k H1 => Q (.bl (!k)) H1) : tNotV ta σ H Q := h
/-! ### by values -/
theorem s_rI0 {gg : Int → Int → V} (h : Q (gg i j) H) : rI0 gg (.int i) (.int j) H Q := ⟨i, j, rfl, rfl, h⟩
theorem s_rU {gg : Int → V} (h : Q (gg i) H) : rU gg (.int i) H Q := ⟨i, rfl, h⟩
theorem s_fdv (h0 : j ≠ 0 ∧ j.natAbs.log2 < 9000) (h : Q (.int (i.fdiv j)) H) : rFdv (.int i) (.int j) H Q := ⟨i, j, rfl, rfl, h0, h⟩
theorem s_mod (h0 : j ≠ 0) (h : Q (.int (i.fmod j)) H) : rMod (.int i) (.int j) H Q := ⟨i, j, rfl, rfl, h0, h⟩
theorem s_fdvp (h0 : 0 < j ∧ j < 2 ^ 64) (h : Q (.int (i / j)) H) : rFdv (.int i) (.int j) H Q := ⟨i, j, rfl, rfl, ⟨by omega, Nat.lt_of_lt_of_le (PySem.Flt.log2_lt_of (k := 64) (by decide) (by omega)) (by decide)⟩, by
  show Q (.int (i.fdiv j)) H
  rw [Int.fdiv_eq_ediv_of_nonneg i (by omega)]; exact h⟩
theorem s_modp (h0 : 0 < j) (h : Q (.int (i % j)) H) : rMod (.int i) (.int j) H Q := ⟨i, j, rfl, rfl, by omega, by
  show Q (.int (i.fmod j)) H
  rw [Int.fmod_eq_emod_of_nonneg i (by omega)]; exact h⟩
theorem s_mulp (h0 : (-18446744073709551616 < i ∧ i < 18446744073709551616) ∨ (-18446744073709551616 < j ∧ j < 18446744073709551616)) (h : Q (.int (i * j)) H) : rMul (.int i) (.int j) H Q := ⟨i, j, rfl, rfl, .inl h0, h⟩
theorem s_mul (h0 : CMul i j ∨ CMulW i j) (h : Q (.int (i * j)) H) : rMul (.int i) (.int j) H Q := ⟨i, j, rfl, rfl, h0, h⟩
theorem s_add_i (h : Q (.int (i + j)) H) : rAddU K (.int i) (.int j) H Q := .inl ⟨i, j, rfl, rfl, h⟩
theorem s_add_s {z w : Str} (h0 : z.length + w.length ≤ sizeLine) (h : Q (.str (z ++ w)) H) : rAddU K (.str z) (.str w) H Q := .inr (.inl ⟨z, w, rfl, rfl, h0, h⟩)
theorem s_add_l (h1 : H p = some (.lst xs)) (h2 : H q = some (.lst ys)) (h0 : xs.length + ys.length ≤ sizeLine) (h : ∀ a, H a = none → Q (.ref a) (upd H a (.lst (xs ++ ys)))) : rAddU K (.ref p) (.ref q) H Q := .inr (.inr (.inl ⟨p, q, xs, ys, rfl, rfl, h1, h2, h0, h⟩))
theorem s_add_t (h1 : SqT K H p xs) (h2 : SqT K H q ys) (hx : xs ≠ []) (hy : ys ≠ []) (h0 : xs.length + ys.length ≤ sizeLine) (h : ∀ a, H a = none → Q (.ref a) (upd H a (.tup (xs ++ ys)))) : rAddU K (.ref p) (.ref q) H Q := .inr (.inr (.inr ⟨p, q, xs, ys, rfl, rfl, h1, h2, h0, fun e => absurd e hx, fun _ e => absurd e hy, fun _ _ => h⟩))
theorem s_add_tl (h1 : SqT K H p []) (h2 : SqT K H q ys) (h0 : ys.length ≤ sizeLine) (h : Q (.ref q) H) : rAddU K (.ref p) (.ref q) H Q := .inr (.inr (.inr ⟨p, q, [], ys, rfl, rfl, h1, h2, by simpa using h0, fun _ => h, fun e => absurd rfl e, fun e => absurd rfl e⟩))
theorem s_add_tr (h1 : SqT K H p xs) (h2 : SqT K H q []) (hx : xs ≠ []) (h0 : xs.length ≤ sizeLine) (h : Q (.ref p) H) : rAddU K (.ref p) (.ref q) H Q := .inr (.inr (.inr ⟨p, q, xs, [], rfl, rfl, h1, h2, by simpa using h0, fun e => absurd e hx, fun _ _ => h, fun _ e => absurd rfl e⟩))
theorem s_eq_i (h : Q (.bl (decide (i = j))) H) : rEqU K (.int i) (.int j) H Q := .inl ⟨rfl, by rw [show decide (V.int i = V.int j) = decide (i = j) by simp]; exact h⟩
theorem s_ne_i (h : Q (.bl (!decide (i = j))) H) : rNeU K (.int i) (.int j) H Q := .inl ⟨rfl, by rw [show decide (V.int i = V.int j) = decide (i = j) by simp]; exact h⟩
theorem s_eq_s {z w : Str} (h : Q (.bl (decide (z = w))) H) : rEqU K (.str z) (.str w) H Q := .inl ⟨rfl, by rw [show decide (V.str z = V.str w) = decide (z = w) by simp]; exact h⟩
theorem s_ne_s {z w : Str} (h : Q (.bl (!decide (z = w))) H) : rNeU K (.str z) (.str w) H Q := .inl ⟨rfl, by rw [show decide (V.str z = V.str w) = decide (z = w) by simp]; exact h⟩
theorem s_eq_v (h0 : scal x y = true) (h : Q (.bl (decide (x = y))) H) : rEqU K x y H Q := .inl ⟨h0, h⟩
theorem s_ne_v (h0 : scal x y = true) (h : Q (.bl (!decide (x = y))) H) : rNeU K x y H Q := .inl ⟨h0, h⟩
theorem s_eq_d {d e : PyData} (h1 : Dp K H x d) (h2 : Dp K H y e) (h3 : SeqAt.shaped d = true) (h4 : SeqAt.shaped e = true) (h : Q (.bl (PyData.eqv d e)) H) : rEqU K x y H Q := .inr (.inl ⟨d, e, h1, h2, h3, h4, h⟩)
theorem s_ne_d {d e : PyData} (h1 : Dp K H x d) (h2 : Dp K H y e) (h3 : SeqAt.shaped d = true) (h4 : SeqAt.shaped e = true) (h : Q (.bl (!PyData.eqv d e)) H) : rNeU K x y H Q := .inr (.inl ⟨d, e, h1, h2, h3, h4, h⟩)
theorem s_eq_len (h1 : H p = some (.lst xs)) (h2 : H q = some (.lst ys)) (hn : xs.length ≠ ys.length) (h : Q (.bl false) H) : rEqU K (.ref p) (.ref q) H Q := .inr (.inr ⟨p, q, xs, ys, rfl, rfl, h1, h2, hn, h⟩)
theorem s_ne_len (h1 : H p = some (.lst xs)) (h2 : H q = some (.lst ys)) (hn : xs.length ≠ ys.length) (h : Q (.bl true) H) : rNeU K (.ref p) (.ref q) H Q := .inr (.inr ⟨p, q, xs, ys, rfl, rfl, h1, h2, hn, h⟩)
theorem s_ix_l (h1 : SqL K H p xs) (h2 : atI xs i = some v) (h : Q v H) : rIx K (.ref p) (.int i) H Q := .inl ⟨p, xs, i, v, rfl, rfl, h1, h2, h⟩
theorem s_ix_t (h1 : SqT K H p xs) (h2 : atI xs i = some v) (h : Q v H) : rIx K (.ref p) (.int i) H Q := .inr (.inl ⟨p, xs, i, v, rfl, rfl, h1, h2, h⟩)
theorem s_ix_s {z : Str} {cc : Nat} (h1 : z.length ≤ sizeLine) (h2 : atI z.cps.toList i = some cc) (h : Q (.str ⟨#[cc]⟩) H) : rIx K (.str z) (.int i) H Q := .inr (.inr ⟨z, i, cc, rfl, rfl, h1, h2, h⟩)
theorem s_setL {N1 : Hp → Prop} (h1 : H p = some (.lst xs)) (h2 : ixN xs.length i = some n) (h : N1 (upd H p (.lst (xs.set n v)))) : rSetL (.ref p) (.int i) v H N1 := ⟨p, xs, i, n, rfl, rfl, h1, h2, h⟩
theorem s_len_l (h1 : SqL K H p xs) (h : Q (.int xs.length) H) : rLen K [.ref p] H Q := ⟨_, xs.length, rfl, .inl ⟨xs, h1, rfl⟩, h⟩
theorem s_len_t (h1 : SqT K H p xs) (h : Q (.int xs.length) H) : rLen K [.ref p] H Q := ⟨_, xs.length, rfl, .inr ⟨xs, h1, rfl⟩, h⟩
theorem s_len_s {z : Str} (h1 : z.length ≤ sizeLine) (h : Q (.int z.length) H) : rLen K [.str z] H Q := ⟨_, z.length, rfl, ⟨h1, rfl⟩, h⟩
theorem s_min2 (h : Q (.int (if j < i then j else i)) H) : rMin2 [.int i, .int j] H Q := ⟨i, j, rfl, h⟩
theorem s_max2 (h : Q (.int (if j > i then j else i)) H) : rMax2 [.int i, .int j] H Q := ⟨i, j, rfl, h⟩
theorem s_listof_l (h1 : SqL K H p xs) (h : ∀ l, H l = none → Q (.ref l) (upd H l (.lst xs))) : rListOf K [.ref p] H Q := ⟨p, xs, rfl, .inl h1, h⟩
theorem s_listof_t (h1 : SqT K H p xs) (h : ∀ l, H l = none → Q (.ref l) (upd H l (.lst xs))) : rListOf K [.ref p] H Q := ⟨p, xs, rfl, .inr h1, h⟩
theorem s_tupof_l (h1 : SqL K H p xs) (h : ∀ l, H l = none → Q (.ref l) (upd H l (.tup xs))) : rTupOf K [.ref p] H Q := ⟨p, xs, rfl, .inl ⟨h1, h⟩⟩
theorem s_tupof_t (h1 : SqT K H p xs) (h : Q (.ref p) H) : rTupOf K [.ref p] H Q := ⟨p, xs, rfl, .inr ⟨h1, h⟩⟩
theorem s_int1 (h : Q (.int i) H) : rInt1 [.int i] H Q := .inl ⟨i, rfl, h⟩
theorem s_int1b (h : Q (.int (if k then 1 else 0)) H) : rInt1 [.bl k] H Q := .inr ⟨k, rfl, h⟩
theorem s_abs (h : Q (.int (if i < 0 then -i else i)) H) : rAbs [.int i] H Q := ⟨i, rfl, h⟩
theorem s_strI (h0 : i.natAbs.log2 < 1920) (h : Q (.str (toString i)) H) : rStrI [.int i] H Q := ⟨i, rfl, h0, h⟩
theorem s_isi {cc : V} {ty uu : Value} {bb : Bool} (h1 : ClsV cc uu) (h2 : TyX K H x ty) (h3 : PySem.W.kitOne K ty uu = some bb) (h : Q (.bl bb) H) : rIsi2 K [x, cc] H Q := .inl ⟨x, cc, ty, uu, bb, rfl, h1, h2, h3, h⟩
theorem s_isN_i (h : Q (.bl false) H) : rIsNz (.int i) .non H Q := ⟨rfl, by rw [decide_eq_false (by intro z; cases z)]; exact h⟩
theorem s_isN_r (h : Q (.bl false) H) : rIsNz (.ref p) .non H Q := ⟨rfl, by rw [decide_eq_false (by intro z; cases z)]; exact h⟩
theorem s_isN_s {z : Str} (h : Q (.bl false) H) : rIsNz (.str z) .non H Q := ⟨rfl, by rw [decide_eq_false (by intro z; cases z)]; exact h⟩
theorem s_isN_n (h : Q (.bl true) H) : rIsNz .non .non H Q := ⟨rfl, by rw [decide_eq_true rfl]; exact h⟩
theorem s_notN_i (h : Q (.bl true) H) : rNotNz (.int i) .non H Q := ⟨rfl, by rw [decide_eq_false (by intro z; cases z)]; exact h⟩
theorem s_notN_r (h : Q (.bl true) H) : rNotNz (.ref p) .non H Q := ⟨rfl, by rw [decide_eq_false (by intro z; cases z)]; exact h⟩
theorem s_notN_s {z : Str} (h : Q (.bl true) H) : rNotNz (.str z) .non H Q := ⟨rfl, by rw [decide_eq_false (by intro z; cases z)]; exact h⟩
theorem s_notN_n (h : Q (.bl false) H) : rNotNz .non .non H Q := ⟨rfl, by rw [decide_eq_true rfl]; exact h⟩
theorem s_slL {te' : TE} {tl th : TO} {rs : V → Option Int → Option Int → Hp → VK → Prop} (h : te' σ H fun x H1 => tl σ H1 fun l H2 => th σ H2 fun u H3 => rs x l u H3 Q) : tSl rs te' tl th σ H Q := h
theorem s_nopart {QO : Option Int → Hp → Prop} (h : QO none H) : tNoPart σ H QO := h
def zPart (x : V) (H : Hp) (QO : Option Int → Hp → Prop) : Prop := ∃ i, x = .int i ∧ QO (some i) H
theorem s_part {QO : Option Int → Hp → Prop} (h : te σ H fun x H1 => zPart x H1 QO) : tPart te σ H QO := h
theorem s_zpart {QO : Option Int → Hp → Prop} (h : QO (some i) H) : zPart (.int i) H QO := ⟨i, rfl, h⟩
theorem s_cutL {lo hi : Option Int} (h1 : SqL K H a xs) (h : ∀ p, H p = none → Q (.ref p) (upd H p (.lst (cutV xs lo hi)))) : rSlU K (.ref a) lo hi H Q := .inl ⟨a, xs, rfl, h1, h⟩
theorem s_isN (h : Q (.bl (decide (x = .non))) H) : rIsNz x .non H Q := ⟨rfl, h⟩
theorem s_notN (h : Q (.bl (!decide (x = .non))) H) : rNotNz x .non H Q := ⟨rfl, h⟩
theorem s_gun_t {tg : TGs} {NN : L2.St → Hp → Prop} (hs : SqT K H a xs) (hl : xs.length = n) (h : tg xs σ H NN) : gUn K n tg (.ref a) σ H NN := .inl ⟨a, xs, rfl, hs, hl, h⟩
theorem s_gun_l {tg : TGs} {NN : L2.St → Hp → Prop} (hs : SqL K H a xs) (hl : xs.length = n) (h : tg xs σ H NN) : gUn K n tg (.ref a) σ H NN := .inr ⟨a, xs, rfl, hs, hl, h⟩
theorem s_p18 (h : Q (.int 1000000000000000000) H) : rI CPow (fun i j => .int (i ^ j.toNat)) (.int 10) (.int 18) H Q := ⟨10, 18, rfl, rfl, by unfold CPow; decide, h⟩
theorem s_callS {W : WX} {sp : Sp} (h : tA σ H fun vs H1 => sp vs H1 Q (WE W σ)) : tCallS sp (WE W) tA σ H Q := h
theorem s_in_l (h1 : SqL K H p xs) (h2 : flatV x = true) (h3 : xs.all flatV = true) (h : Q (.bl (inV x xs)) H) : rIn K false x (.ref p) H Q := ⟨p, xs, rfl, .inl h1, h2, h3, h⟩
theorem s_in_t (h1 : SqT K H p xs) (h2 : flatV x = true) (h3 : xs.all flatV = true) (h : Q (.bl (inV x xs)) H) : rIn K false x (.ref p) H Q := ⟨p, xs, rfl, .inr h1, h2, h3, h⟩
theorem s_nin_l (h1 : SqL K H p xs) (h2 : flatV x = true) (h3 : xs.all flatV = true) (h : Q (.bl (!inV x xs)) H) : rIn K true x (.ref p) H Q := ⟨p, xs, rfl, .inl h1, h2, h3, h⟩
theorem s_nin_t (h1 : SqT K H p xs) (h2 : flatV x = true) (h3 : xs.all flatV = true) (h : Q (.bl (!inV x xs)) H) : rIn K true x (.ref p) H Q := ⟨p, xs, rfl, .inr h1, h2, h3, h⟩
theorem s_append (h1 : H p = some (.lst xs)) (h2 : xs.length < sizeLine) (h : Q .non (upd H p (.lst (xs ++ [v])))) : rAppend (.ref p) [v] H Q := ⟨p, xs, v, rfl, rfl, h1, h2, h⟩
theorem s_zTyL {N0 : Prop} (h1 : H p = some (.lst xs)) (h : N0) : zTy K "list" (.ref p) H N0 := ⟨.inl ⟨rfl, xs, .inl (.inl h1)⟩, h⟩
theorem s_zTyS {N0 : Prop} {z : Str} (h : N0) : zTy K "str" (.str z) H N0 := ⟨rfl, h⟩
theorem s_zTyL' {N0 : Prop} (h1 : SqL K H p xs) (h : N0) : zTy K "list" (.ref p) H N0 := ⟨.inl ⟨rfl, xs, h1⟩, h⟩
theorem s_join_l {z : Str} {ys : List Str} (h1 : SqL K H p (ys.map V.str)) (h2 : (ys.map (·.length)).sum + ys.length * z.length ≤ 16777216) (h : Q (.str (Txt.join z ys)) H) : rJoin K (.str z) [.ref p] H Q := ⟨z, p, ys, rfl, rfl, .inl h1, h2, h⟩
theorem s_index {y z : V} {j : Nat} (h1 : SqL K H p xs) (h2 : flatV y = true) (h3 : xs.all flatV = true) (h4 : xs[j]? = some z) (h5 : eqV z y = true) (h6 : ∀ (m : Nat) (z' : V), m < j → xs[m]? = some z' → eqV z' y = false) (h : Q (.int (j : Nat)) H) : rIndex K (.ref p) [y] H Q := ⟨p, xs, y, j, z, rfl, rfl, h1, h2, h3, h4, h5, h6, h⟩
theorem s_slS {z : Str} {lo hi : Option Int} (h1 : z.length ≤ sizeLine) (h : Q (.str (cutS z lo hi)) H) : rSlS (.str z) lo hi H Q := ⟨z, rfl, h1, h⟩
theorem s_zDGet_s {z : Str} {kvs : List (Key × V)} (h1 : Rd H p (.dK kvs)) (h2 : valV kvs (Sum.inr z : Key) = some v) (h : Q v H) : zDGet (.ref p) (.str z) H Q := ⟨p, v, rfl, .inl ⟨kvs, Sum.inr z, h1, rfl, h2.symm⟩, h⟩
theorem s_zDGet_i {kvs : List (Key × V)} (h1 : Rd H p (.dK kvs)) (h2 : valV kvs (Sum.inl i : Key) = some v) (h : Q v H) : zDGet (.ref p) (.int i) H Q := ⟨p, v, rfl, .inl ⟨kvs, Sum.inl i, h1, rfl, h2.symm⟩, h⟩
theorem s_zDIn_s {z : Str} {kvs : List (Key × V)} (h1 : Rd H p (.dK kvs)) (h : Q (.bl (valV kvs (Sum.inr z : Key)).isSome) H) : zDIn (.str z) (.ref p) H Q := ⟨p, _, rfl, .inl ⟨kvs, Sum.inr z, h1, rfl, rfl⟩, h⟩
theorem s_zDIn_i {kvs : List (Key × V)} (h1 : Rd H p (.dK kvs)) (h : Q (.bl (valV kvs (Sum.inl i : Key)).isSome) H) : zDIn (.int i) (.ref p) H Q := ⟨p, _, rfl, .inl ⟨kvs, Sum.inl i, h1, rfl, rfl⟩, h⟩
theorem s_zDNotIn_s {z : Str} {kvs : List (Key × V)} (h1 : Rd H p (.dK kvs)) (h : Q (.bl (!(valV kvs (Sum.inr z : Key)).isSome)) H) : zDNotIn (.str z) (.ref p) H Q := ⟨p, _, rfl, .inl ⟨kvs, Sum.inr z, h1, rfl, rfl⟩, h⟩
theorem s_zDNotIn_i {kvs : List (Key × V)} (h1 : Rd H p (.dK kvs)) (h : Q (.bl (!(valV kvs (Sum.inl i : Key)).isSome)) H) : zDNotIn (.int i) (.ref p) H Q := ⟨p, _, rfl, .inl ⟨kvs, Sum.inl i, h1, rfl, rfl⟩, h⟩
theorem s_zDPut_s {z : Str} {kvs : List (Key × V)} {N1 : Hp → Prop} (h1 : H p = some (.dK kvs)) (h2 : kvs.length < sizeLine) (h : N1 (upd H p (.dK (putK kvs (Sum.inr z : Key) v)))) : zDPut (.ref p) (.str z) v H N1 := ⟨p, _, rfl, .inl ⟨kvs, Sum.inr z, h1, rfl, h2, rfl⟩, h⟩
theorem s_zDPut_i {kvs : List (Key × V)} {N1 : Hp → Prop} (h1 : H p = some (.dK kvs)) (h2 : kvs.length < sizeLine) (h : N1 (upd H p (.dK (putK kvs (Sum.inl i : Key) v)))) : zDPut (.ref p) (.int i) v H N1 := ⟨p, _, rfl, .inl ⟨kvs, Sum.inl i, h1, rfl, h2, rfl⟩, h⟩
theorem s_zFld {C dx : Addr} {fs : List (Str × V)} {f : Str} (h1 : H p = some (.ins C dx fs)) (hc : Cls K C) (hn : NoAttr K C f) (hl : fs.lookup f = some v) (h : Q v H) : zFld K (.ref p) f H Q := ⟨p, C, dx, fs, v, rfl, h1, hc, hn, hl, h⟩
/-! ### ways -/
theorem s_ift (h : A) : zIf true A B := by unfold zIf; rw [if_pos rfl]; exact h
theorem s_iff (h : B) : zIf false A B := by unfold zIf; rw [if_neg Bool.false_ne_true]; exact h
theorem s_ifnn {D : Prop} [Decidable D] (h1 : ¬ D → A) (h2 : D → B) : zIf (!decide D) A B := by
  by_cases h : D
  · rw [decide_eq_true h]; exact s_iff (h2 h)
  · rw [decide_eq_false h]; exact s_ift (h1 h)
theorem s_nt (h : B) : zIf (!true) A B := s_iff h
theorem s_nf (h : A) : zIf (!false) A B := s_ift h
theorem s_ifd {D : Prop} [Decidable D] (h1 : D → A) (h2 : ¬ D → B) : zIf (decide D) A B := by
  by_cases h : D
  · rw [decide_eq_true h]; exact s_ift (h1 h)
  · rw [decide_eq_false h]; exact s_iff (h2 h)
theorem s_ifn {D : Prop} [Decidable D] (h1 : ¬ D → A) (h2 : D → B) : zIf (!decide D) A B := by
  by_cases h : D
  · rw [decide_eq_true h]; exact s_iff (h2 h)
  · rw [decide_eq_false h]; exact s_ift (h1 h)
theorem s_ifdt {D : Prop} [Decidable D] (h : D) (h1 : A) : zIf (decide D) A B := by rw [decide_eq_true h]; exact s_ift h1
theorem s_ifdf {D : Prop} [Decidable D] (h : ¬ D) (h1 : B) : zIf (decide D) A B := by rw [decide_eq_false h]; exact s_iff h1
theorem s_nft {D : Prop} [Decidable D] (h : D) (h1 : B) : zIf (!decide D) A B := by rw [decide_eq_true h]; exact s_iff h1
theorem s_nff {D : Prop} [Decidable D] (h : ¬ D) (h1 : A) : zIf (!decide D) A B := by rw [decide_eq_false h]; exact s_ift h1
theorem s_ifk (h1 : k = true → A) (h2 : k = false → B) : zIf k A B := by
  cases k with
  | true => exact s_ift (h1 rfl)
  | false => exact s_iff (h2 rfl)
theorem s_ifkt (h : k = true) (h1 : A) : zIf k A B := by subst h; exact s_ift h1
theorem s_ifkf (h : k = false) (h1 : B) : zIf k A B := by subst h; exact s_iff h1
/-! ### loops -/
/-- a loop whose iterator stands -/
def zLoop (J : It) (g : TG) (tb : TS) (D : Ends) (σ : L2.St) (H1 : Hp) : Prop := ∃ W : Nat → Nat → L2.St → Hp → Prop, (∃ m, W 0 m σ H1) ∧ ∀ i m σ H, W i m σ H →
  (J.stop i H ∧ D.nx σ H) ∨ (J.go i H ∧ ∃ N : L2.St → Hp → Prop, (∀ σ' H', N σ' H' → ∃ m', m' < m ∧ W (i + 1) m' σ' H') ∧ ∀ x H', J.yld i H x H' → g x σ H' fun σ2 H2 => tb { D with nx := N, ct := N, bk := D.nx } σ2 H2)
def zRng1 (vs : List V) (H : Hp) (R : It → Hp → Prop) : Prop := ∃ j : Int, vs = [.int j] ∧ -(2 ^ 62) ≤ j ∧ j < 2 ^ 62 ∧ R (Itr 0 j.toNat) H
def zRng2 (vs : List V) (H : Hp) (R : It → Hp → Prop) : Prop := ∃ i j : Int, vs = [.int i, .int j] ∧ (-(2 ^ 62) ≤ i ∧ i < 2 ^ 62 ∧ -(2 ^ 62) ≤ j ∧ j < 2 ^ 62) ∧ R (Itr i (j - i).toNat) H
def zItL (K : PySem.W.Frag) (x : V) (H : Hp) (R : It → Hp → Prop) : Prop := ∃ a, x = .ref a ∧ (∃ xs, SqL K H a xs) ∧ R (Itl K a) H
def zItT (K : PySem.W.Frag) (x : V) (H : Hp) (R : It → Hp → Prop) : Prop := ∃ a, x = .ref a ∧ (∃ xs, SqT K H a xs) ∧ R (Itt K a) H
/-- a comprehension whose iterator stands -/
def zLc (J : It) (g : TG) (t : TT) (te : TE) (vs : List Nat) (σ : L2.St) (H1 : Hp) (Q : VK) : Prop := ∀ D, H1 D = none → ∃ W : Nat → Nat → Hp → Prop, (∃ m, W 0 m (upd H1 D (.lst []))) ∧ ∀ i m H, W i m H →
  (J.stop i H ∧ Q (.ref D) H) ∨ (J.go i H ∧ ∃ Nx : Hp → Prop, (∀ H', Nx H' → ∃ m', m' < m ∧ W (i + 1) m' H') ∧ ∀ x H', J.yld i H x H' → g x (wipe σ vs) H' fun σ2 H2 => wipe σ2 vs = wipe σ vs ∧ t σ2 H2 fun b H3 =>
    if b = true then te σ2 H3 fun y H4 => ∃ acc, H4 D = some (.lst acc) ∧ acc.length < sizeLine ∧ Nx (upd H4 D (.lst (acc ++ [y]))) else Nx H3)
def zWipe (vs : List Nat) (σ σ2 : L2.St) (A : Prop) : Prop := wipe σ2 vs = wipe σ vs ∧ A
def zAcc (D : Addr) (y : V) (H : Hp) (P : Hp → Prop) : Prop := ∃ acc, H D = some (.lst acc) ∧ acc.length < sizeLine ∧ P (upd H D (.lst (acc ++ [y])))
theorem s_lc {wi : TI} {vs : List Nat} (h : wi σ H fun J H1 => zLc J g t te vs σ H1 Q) : tLc wi g t te vs σ H Q := h
theorem s_yes (h : QB true H) : tYes σ H QB := h
theorem s_wipe {vs : List Nat} {σ2 : L2.St} (h : wipe σ2 vs = wipe σ vs) (h1 : A) : zWipe vs σ σ2 A := ⟨h, h1⟩
theorem s_acc {D : Addr} {acc : List V} {P : Hp → Prop} (h1 : H D = some (.lst acc)) (h2 : acc.length < sizeLine) (h : P (upd H D (.lst (acc ++ [y])))) : zAcc D y H P := ⟨acc, h1, h2, h⟩
theorem lc_rng {lo : Int} {vs : List Nat} (Pv : Addr → Nat → Hp → Prop) (h0 : ∀ D, H D = none → Pv D 0 (upd H D (.lst [])))
    (hs : ∀ D i H', H D = none → i < n → Pv D i H' → g (.int (lo + (i : Int))) (wipe σ vs) H' fun σ2 H2 => zWipe vs σ σ2 (t σ2 H2 fun k H3 => zIf k (te σ2 H3 fun y H4 => zAcc D y H4 (Pv D (i + 1))) (Pv D (i + 1) H3)))
    (hd : ∀ D H', H D = none → Pv D n H' → Q (.ref D) H') : zLc (Itr lo n) g t te vs σ H Q := fun D hD =>
  lc_range (Pv D) (h0 D hD) (fun i H' hi hp => hs D i H' hD hi hp) (fun H' hp => hd D H' hD hp)
theorem lc_lst {vs : List Nat} (xs : List V) (Pv : Addr → Nat → Hp → Prop) (h0 : ∀ D, H D = none → Pv D 0 (upd H D (.lst []))) (hl : ∀ D i H', H D = none → i ≤ xs.length → Pv D i H' → SqL K H' p xs)
    (hs : ∀ D i x H', H D = none → xs[i]? = some x → Pv D i H' → g x (wipe σ vs) H' fun σ2 H2 => zWipe vs σ σ2 (t σ2 H2 fun k H3 => zIf k (te σ2 H3 fun y H4 => zAcc D y H4 (Pv D (i + 1))) (Pv D (i + 1) H3)))
    (hd : ∀ D H', H D = none → Pv D xs.length H' → Q (.ref D) H') : zLc (Itl K p) g t te vs σ H Q := fun D hD =>
  lc_list (xs := xs) (Pv D) (h0 D hD) (fun i H' hi hp => hl D i H' hD hi hp) (fun i x H' hx hp => hs D i x H' hD hx hp) (fun H' hp => hd D H' hD hp)
theorem lc_tp {vs : List Nat} (xs : List V) (Pv : Addr → Nat → Hp → Prop) (h0 : ∀ D, H D = none → Pv D 0 (upd H D (.lst []))) (hl : ∀ D i H', H D = none → i ≤ xs.length → Pv D i H' → SqT K H' p xs)
    (hs : ∀ D i x H', H D = none → xs[i]? = some x → Pv D i H' → g x (wipe σ vs) H' fun σ2 H2 => zWipe vs σ σ2 (t σ2 H2 fun k H3 => zIf k (te σ2 H3 fun y H4 => zAcc D y H4 (Pv D (i + 1))) (Pv D (i + 1) H3)))
    (hd : ∀ D H', H D = none → Pv D xs.length H' → Q (.ref D) H') : zLc (Itt K p) g t te vs σ H Q := fun D hD =>
  lc_tup (xs := xs) (Pv D) (h0 D hD) (fun i H' hi hp => hl D i H' hD hi hp) (fun i x H' hx hp => hs D i x H' hD hx hp) (fun H' hp => hd D H' hD hp)
theorem cut_nat {a b : Nat} {xs : List V} (h : a ≤ b) (h2 : b ≤ xs.length) : cutV xs (some (a : Int)) (some (b : Int)) = (xs.drop a).take (b - a) := by
  unfold cutV
  rw [HT.sIx_nat, HT.sIx_nat, Nat.min_eq_left h2, Nat.min_eq_left (Nat.le_trans h h2)]
theorem s_fdvq (h0 : 0 < j ∧ j < 10 ^ 70) (h : Q (.int (i / j)) H) : rFdv (.int i) (.int j) H Q := ⟨i, j, rfl, rfl, ⟨by omega, Nat.lt_of_lt_of_le (PySem.Flt.log2_lt_of (k := 240) (by decide) (by omega)) (by decide)⟩, by
  show Q (.int (i.fdiv j)) H
  rw [Int.fdiv_eq_ediv_of_nonneg i (by omega)]; exact h⟩
theorem s_extend {b' : Addr} {zs : List V} (h1 : H p = some (.lst xs)) (h2 : H b' = some (.lst zs)) (h3 : xs.length + zs.length ≤ sizeLine) (h : Q .non (upd H p (.lst (xs ++ zs)))) : rExtend (.ref p) [.ref b'] H Q := ⟨p, b', xs, zs, rfl, rfl, h1, h2, h3, h⟩
theorem s_clear (h1 : H p = some (.lst xs)) (h : Q .non (upd H p (.lst []))) : rClear (.ref p) [] H Q := ⟨p, xs, rfl, rfl, h1, h⟩
theorem s_for {wi : TI} {tb1 : TS} (h : wi σ H fun J H1 => zLoop J g tb1 ⟨N, r, b, c⟩ σ H1) : tFor wi g tb1 ⟨N, r, b, c⟩ σ H := h
theorem s_rng1 {R : It → Hp → Prop} (h : tA σ H fun vs H1 => zRng1 vs H1 R) : iRng1 tA σ H R := h
theorem s_rng2 {R : It → Hp → Prop} (h : tA σ H fun vs H1 => zRng2 vs H1 R) : iRng2 tA σ H R := h
theorem s_itl {R : It → Hp → Prop} (h : te σ H fun x H1 => zItL K x H1 R) : iList K te σ H R := h
theorem s_itt {R : It → Hp → Prop} (h : te σ H fun x H1 => zItT K x H1 R) : iTup K te σ H R := h
theorem s_zrng1 {R : It → Hp → Prop} (h1 : -(2 ^ 62) ≤ j ∧ j < 2 ^ 62) (h : R (Itr 0 j.toNat) H) : zRng1 [.int j] H R := ⟨j, rfl, h1.1, h1.2, h⟩
theorem s_zrng2 {R : It → Hp → Prop} (h1 : -(2 ^ 62) ≤ i ∧ i < 2 ^ 62 ∧ -(2 ^ 62) ≤ j ∧ j < 2 ^ 62) (h : R (Itr i (j - i).toNat) H) : zRng2 [.int i, .int j] H R := ⟨i, j, rfl, h1, h⟩
theorem s_zitl {R : It → Hp → Prop} (h1 : SqL K H p xs) (h : R (Itl K p) H) : zItL K (.ref p) H R := ⟨p, rfl, ⟨xs, h1⟩, h⟩
theorem s_zitt {R : It → Hp → Prop} (h1 : SqT K H p xs) (h : R (Itt K p) H) : zItT K (.ref p) H R := ⟨p, rfl, ⟨xs, h1⟩, h⟩
theorem loop_range {tb1 : TS} {lo : Int} (Pv : Nat → L2.St → Hp → Prop) (h0 : Pv 0 σ H) (hs : ∀ i σ' H', i < n → Pv i σ' H' → g (.int (lo + (i : Int))) σ' H' fun σ2 H2 => tb1 ⟨Pv (i + 1), r, N, Pv (i + 1)⟩ σ2 H2)
    (hd : ∀ σ' H', Pv n σ' H' → N σ' H') : zLoop (Itr lo n) g tb1 ⟨N, r, b, c⟩ σ H := for_range (D := ⟨N, r, b, c⟩) Pv h0 hs hd
theorem loop_list {tb1 : TS} (xs : List V) (Pv : Nat → L2.St → Hp → Prop) (h0 : Pv 0 σ H) (hl : ∀ i σ' H', i ≤ xs.length → Pv i σ' H' → SqL K H' p xs)
    (hs : ∀ i x σ' H', xs[i]? = some x → Pv i σ' H' → g x σ' H' fun σ2 H2 => tb1 ⟨Pv (i + 1), r, N, Pv (i + 1)⟩ σ2 H2) (hd : ∀ σ' H', Pv xs.length σ' H' → N σ' H') : zLoop (Itl K p) g tb1 ⟨N, r, b, c⟩ σ H :=
  for_list (D := ⟨N, r, b, c⟩) (xs := xs) Pv h0 hl hs hd
theorem loop_tup {tb1 : TS} (xs : List V) (Pv : Nat → L2.St → Hp → Prop) (h0 : Pv 0 σ H) (hl : ∀ i σ' H', i ≤ xs.length → Pv i σ' H' → SqT K H' p xs)
    (hs : ∀ i x σ' H', xs[i]? = some x → Pv i σ' H' → g x σ' H' fun σ2 H2 => tb1 ⟨Pv (i + 1), r, N, Pv (i + 1)⟩ σ2 H2) (hd : ∀ σ' H', Pv xs.length σ' H' → N σ' H') : zLoop (Itt K p) g tb1 ⟨N, r, b, c⟩ σ H :=
  for_tup (D := ⟨N, r, b, c⟩) (xs := xs) Pv h0 hl hs hd
def zBody (W : Nat → L2.St → Hp → Prop) (m : Nat) (tb : TS) (D : Ends) (σ : L2.St) (H1 : Hp) : Prop := ∃ N1 : L2.St → Hp → Prop, (∀ σ' H', N1 σ' H' → ∃ m', m' < m ∧ W m' σ' H') ∧ tb { D with nx := N1, ct := N1, bk := D.nx } σ H1
theorem s_zbody {W : Nat → L2.St → Hp → Prop} {m : Nat} {tb1 : TS} (h : tb1 ⟨fun σ2 H2 => ∃ m', m' < m ∧ W m' σ2 H2, r, N, fun σ2 H2 => ∃ m', m' < m ∧ W m' σ2 H2⟩ σ H) : zBody W m tb1 ⟨N, r, b, c⟩ σ H := ⟨_, fun σ2 H2 z => z, h⟩
theorem s_while {tb1 : TS} (W : Nat → L2.St → Hp → Prop) (m0 : Nat) (h0 : W m0 σ H)
    (hs : ∀ (m : Nat) σ' H', W m σ' H' → t σ' H' fun k H1 => zIf k (zBody W m tb1 ⟨N, r, b, c⟩ σ' H1) (N σ' H1)) : tWhile t tb1 ⟨N, r, b, c⟩ σ H := ⟨W, ⟨m0, h0⟩, fun m σ' H' w => hs m σ' H' w⟩
/-! ### heaps -/
theorem up_new {H : Hp} {q a : Addr} {o u : HO} (hq : H q = none) (h : H a = some o) : upd H q u a = some o := by rw [upd_ne (ne_of_none h hq)]; exact h
theorem up_far {H : Hp} {q a : Addr} {o u : HO} (hn : a ≠ q) (h : H a = some o) : upd H q u a = some o := by rw [upd_ne hn]; exact h
variable [TQ]
/-- what isn't a code object's table -/
def nt : HO → Bool
  | .tbl _ => false
  | _ => true
/-- what no one writes: what is locked, a table, a thing told by what is true of it -/
def Fz : HO → Prop
  | .frz _ _ => True
  | .tbl _ => True
  | .ext _ => True
  | _ => False
/-- a table: each code object that it tells bears the table's name -/
def TabG (H : Hp) (P : Addr) : Prop := LamX.TabS H P (TQ.q P)
/-- all but tables is as it was; tables stand, and tell of the same names -/
structure Same (H H' : Hp) : Prop where
  st : ∀ b o, H b = some o → nt o = true → H' b = some o
  tb : ∀ b ps, H b = some (.tbl ps) → ∃ ps', H' b = some (.tbl ps')
  tt : ∀ b, TabG H b → TabG H' b
theorem Same.ap {H H' : Hp} (s : Same H H') (b : Addr) (o : HO) (h : H b = some o) (k : nt o = true := by rfl) : H' b = some o := s.st b o h k
instance {H H' : Hp} : CoeFun (Same H H') fun _ => ∀ b o, H b = some o → (_ : nt o = true := by rfl) → H' b = some o := ⟨@Same.ap _ H H'⟩
theorem Same.all {H H' : Hp} (h : ∀ b o, H b = some o → H' b = some o) : Same H H' := ⟨fun b o e _ => h b o e, fun b ps e => ⟨ps, h _ _ e⟩, fun _ t => LamX.TabS.ext t h⟩
theorem Same.refl (H : Hp) : Same H H := .all fun _ _ h => h
theorem Same.trans {H H1 H2 : Hp} (a : Same H H1) (b : Same H1 H2) : Same H H2 := ⟨fun c o h n => b.st c o (a.st c o h n) n, fun c ps h => (a.tb c ps h).elim fun ps' z => b.tb c ps' z, fun c t => b.tt c (a.tt c t)⟩
theorem Same.free {H H' : Hp} (e : Same H H') {l : Addr} (h : H' l = Option.none) : H l = Option.none := by
  cases x : H l with
  | none => rfl
  | some o =>
    cases n : nt o with
    | true => rw [e.st _ _ x n] at h; cases h
    | false =>
      cases o with
      | tbl ps => obtain ⟨ps', z⟩ := e.tb _ _ x; rw [z] at h; cases h
      | _ => cases n
theorem Same.seq {K : PySem.W.Frag} {H H' : Hp} {a : Addr} {xs : List V} (S : Same H H') (h : SqL K H a xs) : SqL K H' a xs := by
  rcases h with (h | ⟨o, h⟩) | h
  · exact .inl (.inl (S _ _ h))
  · exact .inl (.inr ⟨o, S _ _ h⟩)
  · exact .inr h
theorem nt_lit {H H' : Hp} {a : Addr} {o : HO} (S : Same H H') (h : H a = some o) (n : nt o = true) : H' a = some o := S.st a o h n
theorem sm_rd {H H' : Hp} {a : Addr} {o : HO} (S : Same H H') (h : H a = some o) (n : nt o = true := by rfl) : H' a = some o := S.st a o h n
theorem same_new {H : Hp} {p : Addr} {o : HO} (h : H p = none) : Same H (upd H p o) := .all fun b u q => by rw [upd_ne (ne_of_none q h)]; exact q
/-- all but what stands at p (and isn't locked) is as it was -/
structure But (p : Addr) (H H' : Hp) : Prop where
  st : ∀ b o, (b ≠ p ∨ Fz o) → H b = some o → nt o = true → H' b = some o
  tb : ∀ b ps, H b = some (.tbl ps) → ∃ ps', H' b = some (.tbl ps')
  tt : ∀ b, TabG H b → TabG H' b
theorem But.ap {p : Addr} {H H' : Hp} (s : But p H H') (b : Addr) (o : HO) (n : (b ≠ p ∨ Fz o)) (h : H b = some o) (k : nt o = true := by rfl) : H' b = some o := s.st b o n h k
instance {p : Addr} {H H' : Hp} : CoeFun (But p H H') fun _ => ∀ b o, (b ≠ p ∨ Fz o) → H b = some o → (_ : nt o = true := by rfl) → H' b = some o := ⟨@But.ap _ p H H'⟩
theorem But.all {p : Addr} {H H' : Hp} (h : ∀ b o, (b ≠ p ∨ Fz o) → H b = some o → H' b = some o) : But p H H' := ⟨fun b o n e _ => h b o n e, fun b ps e => ⟨ps, h _ _ (.inr trivial) e⟩, fun b t => by
  obtain ⟨ps, h1, h2, h3⟩ := t
  refine ⟨ps, h _ _ (.inr trivial) h1, h2, fun pos cv hc => ?_⟩
  obtain ⟨c, e1, e2⟩ := h3 pos cv hc
  exact ⟨c, e1, h _ _ (.inr trivial) e2⟩⟩
theorem But.refl (p : Addr) (H : Hp) : But p H H := .all fun _ _ _ h => h
theorem But.trans {p : Addr} {H H1 H2 : Hp} (a : But p H H1) (b : But p H1 H2) : But p H H2 := ⟨fun c o n h k => b.st c o n (a.st c o n h k) k, fun c ps h => (a.tb c ps h).elim fun ps' z => b.tb c ps' z, fun c t => b.tt c (a.tt c t)⟩
theorem But.rd {p : Addr} {H H' : Hp} {a : Addr} {o : HO} (S : But p H H') (n : a ≠ p) (h : H a = some o) (k : nt o = true := by rfl) : H' a = some o := S.st a o (.inl n) h k
theorem But.of {p : Addr} {H H' : Hp} (S : Same H H') : But p H H' := ⟨fun b o _ h k => S.st b o h k, S.tb, S.tt⟩
theorem up_but {H : Hp} {p : Addr} {o u : HO} (h : H p = some u) (nf : ¬ Fz u) : But p H (L2.upd H p o) := .all fun b v n e => by
  by_cases c : b = p
  · subst c
    rw [h] at e
    cases e
    exact (n.elim (fun z => absurd rfl z) fun z => absurd z nf)
  · rw [upd_ne c]; exact e
theorem But.up {p : Addr} {H H' : Hp} {o u : HO} (S : But p H H') (hp : H' p = some u) (nf : ¬ Fz u) : But p H (L2.upd H' p o) := S.trans (up_but hp nf)
theorem But.new {p q : Addr} {H H' : Hp} {o : HO} (S : But p H H') (hq : H' q = none) : But p H (L2.upd H' q o) := S.trans (.of (same_new hq))
theorem But.none {p b : Addr} {H H' : Hp} (S : But p H H') (n : b ≠ p) (h : H' b = Option.none) : H b = Option.none := by
  cases x : H b with
  | none => rfl
  | some o =>
    cases k : nt o with
    | true => rw [S.st _ _ (.inl n) x k] at h; cases h
    | false =>
      cases o with
      | tbl ps => obtain ⟨ps', z⟩ := S.tb _ _ x; rw [z] at h; cases h
      | _ => cases k
theorem But.sqL {K : PySem.W.Frag} {p : Addr} {H H' : Hp} {a : Addr} {xs : List V} (S : But p H H') (n : a ≠ p) (h : SqL K H a xs) : SqL K H' a xs := by
  rcases h with (h | ⟨o, h⟩) | h
  · exact .inl (.inl (S _ _ (.inl n) h))
  · exact .inl (.inr ⟨o, S _ _ (.inl n) h⟩)
  · exact .inr h
theorem But.sqT {K : PySem.W.Frag} {p : Addr} {H H' : Hp} {a : Addr} {xs : List V} (S : But p H H') (n : a ≠ p) (h : SqT K H a xs) : SqT K H' a xs := by
  rcases h with (h | ⟨o, h⟩) | h
  · exact .inl (.inl (S _ _ (.inl n) h))
  · exact .inl (.inr ⟨o, S _ _ (.inl n) h⟩)
  · exact .inr h
theorem same_sqT {K : PySem.W.Frag} {H H' : Hp} {a : Addr} {xs : List V} (S : Same H H') (h : SqT K H a xs) : SqT K H' a xs := by
  rcases h with (h | ⟨o, h⟩) | h
  · exact .inl (.inl (S _ _ h))
  · exact .inl (.inr ⟨o, S _ _ h⟩)
  · exact .inr h
/-- the law's script: locked, or of the written part -/
def Scr (K : PySem.W.Frag) (H : Hp) (a : Addr) (ns : List Int) : Prop := (∃ o, H a = some (.frz o (.lst (ns.map V.int)))) ∨
  ∃ (o : Obj) (its : Array Value) (n : Nat), K.lookup a = some o ∧ o.cls = .type "list" ∧ o.dict = none ∧ o.data = .seq its n ∧ its.size ≤ sizeLine ∧ Vals (ns.map V.int) its.toList
theorem Scr.of {K : PySem.W.Frag} {H : Hp} {a : Addr} {ns : List Int} (h0 : Only H) (h : SqL K H a (ns.map V.int)) : Scr K H a ns := by
  rcases h with (h | ⟨o, h⟩) | h
  · rcases h0 a with e | ⟨o, xs, e⟩
    · rw [h] at e; cases e
    · rw [h] at e; cases e
  · exact .inl ⟨o, h⟩
  · exact .inr h
theorem Scr.sq {K : PySem.W.Frag} {H : Hp} {a : Addr} {ns : List Int} (h : Scr K H a ns) : SqL K H a (ns.map V.int) := by
  rcases h with ⟨o, h⟩ | h
  · exact .inl (.inr ⟨o, h⟩)
  · exact .inr h
theorem Scr.but {K : PySem.W.Frag} {H H' : Hp} {p a : Addr} {ns : List Int} (S : But p H H') (h : Scr K H a ns) : Scr K H' a ns := by
  rcases h with ⟨o, h⟩ | h
  · exact .inl ⟨o, S _ _ (.inr trivial) h⟩
  · exact .inr h
theorem Scr.same {K : PySem.W.Frag} {H H' : Hp} {a : Addr} {ns : List Int} (S : Same H H') (h : Scr K H a ns) : Scr K H' a ns := by
  rcases h with ⟨o, h⟩ | h
  · exact .inl ⟨o, S _ _ h⟩
  · exact .inr h
/-- a change of what stands at p, the heap behind it by a name -/
theorem c_setL {N1 : Hp → Prop} (n : Nat) (ys : List V) (h1 : H p = some (.lst xs)) (h2 : ixN xs.length i = some n) (h3 : xs.set n v = ys) (h : ∀ H', But p H H' → H' p = some (.lst ys) → N1 H') : rSetL (.ref p) (.int i) v H N1 :=
  s_setL h1 h2 (h _ (up_but h1 (fun z => z)) (by rw [h3]; exact upd_same))
theorem c_acc {D : Addr} {acc : List V} {P : Hp → Prop} (h1 : H D = some (.lst acc)) (h2 : acc.length < sizeLine) (h : ∀ H', But D H H' → H' D = some (.lst (acc ++ [y])) → P H') : zAcc D y H P :=
  s_acc h1 h2 (h _ (up_but h1 (fun z => z)) upd_same)
theorem c_fld {C dx : Addr} {fs gs : List (Str × V)} {f : Str} {N1 : Hp → Prop} (h1 : H p = some (.ins C dx fs)) (hc : Cls K C) (hn : NoAttr K C f) (hl : fs.length < 1000) (h3 : putF f y fs = gs) (h : ∀ H', But p H H' → H' p = some (.ins C dx gs) → N1 H') : zPutF K (.ref p) f y H N1 :=
  s_zputF h1 hc hn hl (h _ (up_but h1 (fun z => z)) (by rw [h3]; exact upd_same))
theorem c_extend {b' : Addr} {zs : List V} (h1 : H p = some (.lst xs)) (h2 : H b' = some (.lst zs)) (h3 : xs.length + zs.length ≤ sizeLine) (h : ∀ H', But p H H' → H' p = some (.lst (xs ++ zs)) → Q .non H') : rExtend (.ref p) [.ref b'] H Q :=
  s_extend h1 h2 h3 (h _ (up_but h1 (fun z => z)) upd_same)
theorem c_clear (h1 : H p = some (.lst xs)) (h : ∀ H', But p H H' → H' p = some (.lst []) → Q .non H') : rClear (.ref p) [] H Q :=
  s_clear h1 (h _ (up_but h1 (fun z => z)) upd_same)
theorem c_pop {z : V} (h1 : H p = some (.lst xs)) (h2 : xs[xs.length - 1]? = some z) (h : ∀ H', But p H H' → H' p = some (.lst xs.dropLast) → Q z H') : rPop (.ref p) [] H Q :=
  s_pop h1 h2 (h _ (up_but h1 (fun z => z)) upd_same)
theorem c_reverse (h1 : H p = some (.lst xs)) (h : ∀ H', But p H H' → H' p = some (.lst xs.reverse) → Q .non H') : rReverse (.ref p) [] H Q :=
  s_reverse h1 (h _ (up_but h1 (fun z => z)) upd_same)
/-- all but what stands at p or q -/
structure But2 (p q : Addr) (H H' : Hp) : Prop where
  st : ∀ b o, ((b ≠ p ∧ b ≠ q) ∨ Fz o) → H b = some o → nt o = true → H' b = some o
  tb : ∀ b ps, H b = some (.tbl ps) → ∃ ps', H' b = some (.tbl ps')
  tt : ∀ b, TabG H b → TabG H' b
theorem But2.ap {p q : Addr} {H H' : Hp} (s : But2 p q H H') (b : Addr) (o : HO) (n : ((b ≠ p ∧ b ≠ q) ∨ Fz o)) (h : H b = some o) (k : nt o = true := by rfl) : H' b = some o := s.st b o n h k
instance {p q : Addr} {H H' : Hp} : CoeFun (But2 p q H H') fun _ => ∀ b o, ((b ≠ p ∧ b ≠ q) ∨ Fz o) → H b = some o → (_ : nt o = true := by rfl) → H' b = some o := ⟨@But2.ap _ p q H H'⟩
theorem But2.left {p q : Addr} {H H' : Hp} (B : But p H H') : But2 p q H H' := ⟨fun b o n h k => B.st b o (n.imp And.left id) h k, B.tb, B.tt⟩
theorem But2.right {p q : Addr} {H H' : Hp} (B : But q H H') : But2 p q H H' := ⟨fun b o n h k => B.st b o (n.imp And.right id) h k, B.tb, B.tt⟩
theorem But2.trans {p q : Addr} {H H1 H2 : Hp} (a : But2 p q H H1) (b : But2 p q H1 H2) : But2 p q H H2 := ⟨fun c o n h k => b.st c o n (a.st c o n h k) k, fun c ps h => (a.tb c ps h).elim fun ps' z => b.tb c ps' z, fun c t => b.tt c (a.tt c t)⟩
theorem But2.of {p q : Addr} {H H' : Hp} (S : Same H H') : But2 p q H H' := ⟨fun b o _ h k => S.st b o h k, S.tb, S.tt⟩
theorem But2.rd {p q : Addr} {H H' : Hp} {a : Addr} {o : HO} (S : But2 p q H H') (n : a ≠ p) (m : a ≠ q) (h : H a = some o) (k : nt o = true := by rfl) : H' a = some o := S.st a o (.inl ⟨n, m⟩) h k
theorem But2.new {p q a : Addr} {H H' : Hp} {o : HO} (S : But2 p q H H') (ha : H' a = none) : But2 p q H (L2.upd H' a o) := S.trans (But2.of (same_new ha))
theorem But2.own {p q l : Addr} {H H1 H2 : Hp} (a : But2 p q H H1) (b : But l H1 H2) (hl : H l = none) : But2 p q H H2 := ⟨fun c o n h k => b.st c o (.inl (ne_of_none h hl)) (a.st c o n h k) k, fun c ps h => (a.tb c ps h).elim fun ps' z => b.tb c ps' z, fun c t => b.tt c (a.tt c t)⟩
theorem But2.one {p q : Addr} {H H' : Hp} (B : But2 p q H H') (hq : H q = none) : But p H H' := ⟨fun c o n h k => B.st c o (n.imp (fun z => ⟨z, ne_of_none h hq⟩) id) h k, B.tb, B.tt⟩
theorem But2.none {p q b : Addr} {H H' : Hp} (S : But2 p q H H') (n : b ≠ p) (m : b ≠ q) (h : H' b = Option.none) : H b = Option.none := by
  cases x : H b with
  | none => rfl
  | some o =>
    cases k : nt o with
    | true => rw [S.st _ _ (.inl ⟨n, m⟩) x k] at h; cases h
    | false =>
      cases o with
      | tbl ps => obtain ⟨ps', z⟩ := S.tb _ _ x; rw [z] at h; cases h
      | _ => cases k
theorem passC {X : Cx} (σ : L2.St) : PassesAt (L2.CX X.prog X.w) X σ (WE (fun _ _ _ _ => False) σ) := fun pins H s e s' I c => passL pins σ H s e s' I c
theorem c_append (h1 : H p = some (.lst xs)) (h2 : xs.length < sizeLine) (h : ∀ H', But p H H' → H' p = some (.lst (xs ++ [v])) → Q .non H') : rAppend (.ref p) [v] H Q :=
  s_append h1 h2 (h _ (up_but h1 (fun z => z)) upd_same)
/-- a change of what wasn't there at first -/
theorem But.own {p l : Addr} {H H1 H2 : Hp} (a : But p H H1) (b : But l H1 H2) (hl : H l = Option.none) : But p H H2 := ⟨fun c o n h k => b.st c o (.inl (ne_of_none h hl)) (a.st c o n h k) k, fun c ps h => (a.tb c ps h).elim fun ps' z => b.tb c ps' z, fun c t => b.tt c (a.tt c t)⟩
theorem same_own {l : Addr} {H H1 H2 : Hp} (a : Same H H1) (b : But l H1 H2) (hl : H l = Option.none) : Same H H2 := ⟨fun c o h k => b.st c o (.inl (ne_of_none h hl)) (a.st c o h k) k, fun c ps h => (a.tb c ps h).elim fun ps' z => b.tb c ps' z, fun c t => b.tt c (a.tt c t)⟩
/-- what is changed is of the new things -/
theorem same_keep {p : Addr} {o0 : HO} {H H1 H2 : Hp} (a : Same H H1) (b : But p H1 H2) (hl : ∀ o, H p = some o → Fz o) : Same H H2 := ⟨fun c o h k => b.st c o (by
  by_cases e : c = p
  · subst e; exact .inr (hl _ h)
  · exact .inl e) (a.st c o h k) k, fun c ps h => (a.tb c ps h).elim fun ps' z => b.tb c ps' z, fun c t => b.tt c (a.tt c t)⟩
/-- tuples stay -/
def TupS (H H' : Hp) : Prop := ∀ b ys, H b = some (.tup ys) → H' b = some (.tup ys)
theorem TupS.refl (H : Hp) : TupS H H := fun _ _ h => h
theorem TupS.trans {H H1 H2 : Hp} (a : TupS H H1) (b : TupS H1 H2) : TupS H H2 := fun c o h => b c o (a c o h)
theorem TupS.new {q : Addr} {H : Hp} {o : HO} (hq : H q = none) : TupS H (L2.upd H q o) := fun b ys h => same_new hq b _ h
theorem TupS.of {H H' : Hp} (S : Same H H') : TupS H H' := fun b _ h => S b _ h
theorem TupS.but {p : Addr} {H H' : Hp} {o : HO} (S : But p H H') (hp : H p = some o) (n : ∀ ys, o ≠ .tup ys) : TupS H H' := fun b ys h => S b _ (.inl fun e => by
  subst e
  rw [hp] at h
  exact n ys (Option.some.inj h)) h
theorem TupS.butN {p : Addr} {H H' : Hp} (S : But p H H') (hp : H p = none) : TupS H H' := fun b ys h => S b _ (.inl fun e => by
  subst e
  rw [hp] at h
  cases h) h
theorem But2.tups {p q : Addr} {H H' : Hp} {o u : HO} (B : But2 p q H H') (hp : H p = some o) (np : ∀ ys, o ≠ .tup ys) (hq : H q = some u) (nq : ∀ ys, u ≠ .tup ys) : TupS H H' := fun b ys h =>
  B b _ (.inl ⟨ne_of h hp (fun z => np ys z.symm), ne_of h hq (fun z => nq ys z.symm)⟩) h
/-- an item of a list of ints, at an open place within -/
theorem at_ints (ns : List Int) {i : Int} (h0 : 0 ≤ i) (h1 : i < ns.length) : ∃ w, w ∈ ns ∧ atI (ns.map V.int) i = some (.int w) := by
  refine ⟨ns[i.toNat]'(by omega), List.getElem_mem _, ?_⟩
  exact at_of (j := i.toNat) (by omega) (by rw [List.getElem?_map, List.getElem?_eq_getElem (by omega)]; rfl)
theorem putK_len {kvs : List (Key × V)} {k : Key} {v w : V} (h : valV kvs k = some w) : (putK kvs k v).length = kvs.length := by
  unfold putK
  rw [valV_any, h]
  simp
theorem valV_put_ne {kvs : List (Key × V)} {k j : Key} {v : V} (h : ¬ j = k) : valV (putK kvs k v) j = valV kvs j := by rw [valV_put, if_neg h]
theorem valV_put_eq {kvs : List (Key × V)} {k : Key} {v : V} : valV (putK kvs k v) k = some v := by rw [valV_put, if_pos rfl]
theorem c_dput_s {z : Str} {kvs : List (Key × V)} {N1 : Hp → Prop} (h1 : H p = some (.dK kvs)) (h2 : kvs.length < sizeLine) (h : ∀ H', But p H H' → H' p = some (.dK (putK kvs (Sum.inr z : Key) v)) → N1 H') : zDPut (.ref p) (.str z) v H N1 :=
  s_zDPut_s h1 h2 (h _ (up_but h1 (fun z => z)) upd_same)
theorem fdiv_abs (a b : Int) : (a.fdiv b).natAbs ≤ a.natAbs + 1 := Nat.le_succ_of_le (Int.natAbs_fdiv_le_natAbs a b)
/-! ### data: laid at most so deep -/
structure Sh (n : Nat) (d : PyData) : Prop where
  c : d.canLay0 = true
  d : d.depth ≤ n
theorem Sh.shaped {n : Nat} {d : PyData} (h : Sh n d) (hn : n ≤ 64) : SeqAt.shaped d = true := by
  unfold SeqAt.shaped
  rw [h.c, decide_eq_true (Nat.le_trans h.d hn)]
  rfl
theorem Sh.mono {n m : Nat} {d : PyData} (h : Sh n d) (hn : n ≤ m) : Sh m d := ⟨h.c, Nat.le_trans h.d hn⟩
theorem Sh.int {n : Nat} (i : Int) : Sh n (.int i) := ⟨rfl, Nat.zero_le _⟩
theorem Sh.non {n : Nat} : Sh n .none := ⟨rfl, Nat.zero_le _⟩
theorem Sh.bl {n : Nat} (b : Bool) : Sh n (.bool b) := ⟨rfl, Nat.zero_le _⟩
theorem Sh.str {n : Nat} {x : Str} (h : PyData.strOk x = true) : Sh n (.str x) := ⟨h, Nat.zero_le _⟩
theorem sh_all {n : Nat} : ∀ {ds : List PyData}, (∀ d ∈ ds, Sh n d) → PyData.canLayAll0 ds = true ∧ PyData.depthAll ds ≤ n
  | [], _ => ⟨rfl, Nat.zero_le _⟩
  | d :: ds, h => by
    have a := h d List.mem_cons_self
    have b := sh_all (ds := ds) fun e he => h e (List.mem_cons_of_mem _ he)
    refine ⟨?_, ?_⟩
    · show (d.canLay0 && PyData.canLayAll0 ds) = true
      rw [a.c, b.1]; rfl
    · show max d.depth (PyData.depthAll ds) ≤ n
      exact Nat.max_le.mpr ⟨a.d, b.2⟩
theorem Sh.list {n : Nat} {ds : List PyData} (h : ∀ d ∈ ds, Sh n d) : Sh (n + 1) (.list ds) := by
  have a := sh_all h
  refine ⟨?_, ?_⟩
  · show PyData.canLayAll0 ds = true
    exact a.1
  · show PyData.depthAll ds + 1 ≤ n + 1
    exact Nat.succ_le_succ a.2
theorem Sh.tup {n : Nat} {ds : List PyData} (h : ∀ d ∈ ds, Sh n d) : Sh (n + 1) (.tuple ds) := by
  have a := sh_all h
  refine ⟨?_, ?_⟩
  · show PyData.canLayAll0 ds = true
    exact a.1
  · show PyData.depthAll ds + 1 ≤ n + 1
    exact Nat.succ_le_succ a.2
theorem Sh.refl {n : Nat} {d : PyData} (h : Sh n d) : PyData.eqv d d = true := SeqAt.eqv_refl d h.c
theorem dp_ints {K : PySem.W.Frag} {H : Hp} : ∀ ns : List Int, DpAll K H (ns.map V.int) (ns.map PyData.int)
  | [] => .nil
  | _ :: ns => .cons (.int _) (dp_ints ns)
theorem sh_ints {n : Nat} (ns : List Int) : ∀ d ∈ ns.map PyData.int, Sh n d := fun d h => by
  obtain ⟨i, _, rfl⟩ := List.mem_map.mp h
  exact Sh.int i
/-- a promise that asks what never holds -/
theorem fn_none {P : Program} {w : World} {K : PySem.W.Frag} {mg : Str → Option Value} {base : Heap} {CX : CXT} {k : Nat} {f : Addr} {fd : FuncData} {ps : List Str} {sp : Sp} (h : ∀ vs H Q E, ¬ sp vs H Q E) : FnOk P w K mg base CX k f fd ps sp :=
  ⟨fun vs H Q E z => absurd z (h vs H Q E), fun A outer s H args us vs Q E _ _ _ _ z => absurd z (h vs H Q E)⟩
/-! ### specs by the number of arguments -/
def Sp0 (f : Hp → VK → XK → Prop) : Sp := fun vs H Q E => vs = [] ∧ f H Q E
def Sp1 (f : V → Hp → VK → XK → Prop) : Sp := fun vs H Q E => ∃ a, vs = [a] ∧ f a H Q E
def Sp2 (f : V → V → Hp → VK → XK → Prop) : Sp := fun vs H Q E => ∃ a b, vs = [a, b] ∧ f a b H Q E
def Sp3 (f : V → V → V → Hp → VK → XK → Prop) : Sp := fun vs H Q E => ∃ a b c, vs = [a, b, c] ∧ f a b c H Q E
def Sp4 (f : V → V → V → V → Hp → VK → XK → Prop) : Sp := fun vs H Q E => ∃ a b c d, vs = [a, b, c, d] ∧ f a b c d H Q E
def Sp5 (f : V → V → V → V → V → Hp → VK → XK → Prop) : Sp := fun vs H Q E => ∃ a b c d e, vs = [a, b, c, d, e] ∧ f a b c d e H Q E
end
end Z
/-! ### rows of values -/
namespace Z
open PySem PySem.Spec PyProof.Rows L2
variable [TQ]
def Row {α : Type} (R : α → V → Prop) (xs : List α) (vs : List V) : Prop := vs.length = xs.length ∧ ∀ (i : Nat) (x : α) (v : V), xs[i]? = some x → vs[i]? = some v → R x v
section
variable {α : Type} {R R' : α → V → Prop} {xs ys : List α} {vs ws : List V} {x : α} {v : V} {i : Nat}
theorem Row.nil : Row R [] [] := ⟨rfl, fun i x v h => by simp at h⟩
theorem Row.imp (h : Row R xs vs) (f : ∀ x v, x ∈ xs → R x v → R' x v) : Row R' xs vs := ⟨h.1, fun i x v a b => f _ _ (List.mem_of_getElem? a) (h.2 i x v a b)⟩
theorem Row.get (h : Row R xs vs) (e : xs[i]? = some x) : ∃ v, vs[i]? = some v ∧ R x v := by
  have hi := (List.getElem?_eq_some_iff.mp e).1
  have hj : i < vs.length := by rw [h.1]; exact hi
  exact ⟨vs[i], List.getElem?_eq_getElem hj, h.2 i x _ e (List.getElem?_eq_getElem hj)⟩
theorem Row.getv (h : Row R xs vs) (e : vs[i]? = some v) : ∃ x, xs[i]? = some x ∧ R x v := by
  have hi := (List.getElem?_eq_some_iff.mp e).1
  have hj : i < xs.length := by rw [← h.1]; exact hi
  exact ⟨xs[i], List.getElem?_eq_getElem hj, h.2 i _ v (List.getElem?_eq_getElem hj) e⟩
theorem Row.one (h : R x v) : Row R [x] [v] := ⟨rfl, fun i a b e f => by
  cases i with
  | zero => simp at e f; subst e; subst f; exact h
  | succ j => simp at e⟩
theorem Row.append (h : Row R xs vs) (g : Row R ys ws) : Row R (xs ++ ys) (vs ++ ws) := ⟨by rw [List.length_append, List.length_append, h.1, g.1], fun i a b e f => by
  by_cases c : i < xs.length
  · rw [List.getElem?_append_left c] at e
    rw [List.getElem?_append_left (by rw [h.1]; exact c)] at f
    exact h.2 i a b e f
  · rw [List.getElem?_append_right (by omega)] at e
    rw [List.getElem?_append_right (by rw [h.1]; omega), h.1] at f
    exact g.2 _ a b e f⟩
theorem Row.app (h : Row R xs vs) (g : R x v) : Row R (xs ++ [x]) (vs ++ [v]) := h.append (Row.one g)
theorem Row.cons (g : R x v) (h : Row R xs vs) : Row R (x :: xs) (v :: vs) := (Row.one g).append h
theorem Row.uncons {l : List V} (h : Row R (x :: xs) l) : ∃ v vs, l = v :: vs ∧ R x v ∧ Row R xs vs := by
  cases l with
  | nil => have := h.1; simp at this
  | cons v vs => exact ⟨v, vs, rfl, h.2 0 _ _ rfl rfl, by have := h.1; simpa using this, fun i a b e f => h.2 (i + 1) a b (by simpa using e) (by simpa using f)⟩
theorem Row.set (h : Row R xs vs) (g : R x v) : Row R (xs.set i x) (vs.set i v) := ⟨by rw [List.length_set, List.length_set, h.1], fun j a b e f => by
  by_cases c : i = j
  · subst c
    have hi := (List.getElem?_eq_some_iff.mp e).1
    rw [List.length_set] at hi
    rw [List.getElem?_set_self hi] at e
    rw [List.getElem?_set_self (by rw [h.1]; exact hi)] at f
    cases e; cases f; exact g
  · rw [List.getElem?_set_ne c] at e f
    exact h.2 j a b e f⟩
theorem Row.take (n : Nat) (h : Row R xs vs) : Row R (xs.take n) (vs.take n) := ⟨by rw [List.length_take, List.length_take, h.1], fun j a b e f => by
  rw [List.getElem?_take] at e f
  split at e
  · rename_i c; rw [if_pos c] at f; exact h.2 j a b e f
  · cases e⟩
theorem Row.drop (n : Nat) (h : Row R xs vs) : Row R (xs.drop n) (vs.drop n) := ⟨by rw [List.length_drop, List.length_drop, h.1], fun j a b e f => by
  rw [List.getElem?_drop] at e f
  exact h.2 _ a b e f⟩
theorem Row.len (h : Row R xs vs) : vs.length = xs.length := h.1
theorem Row.mp {β : Type} {f : β → α} {bs : List β} (h : Row R (bs.map f) vs) : Row (fun b v => R (f b) v) bs vs := ⟨by rw [h.1, List.length_map], fun i b v e g => h.2 i _ v (by rw [List.getElem?_map, e]; rfl) g⟩
theorem Row.mpr {β : Type} {f : β → α} {bs : List β} (h : Row (fun b v => R (f b) v) bs vs) : Row R (bs.map f) vs := ⟨by rw [h.1, List.length_map], fun i a v e g => by
  rw [List.getElem?_map] at e
  obtain ⟨b, e1, rfl⟩ := Option.map_eq_some_iff.mp e
  exact h.2 i b v e1 g⟩
end
/-- a tuple of ints -/
def TupI (H : Hp) (x : List Int) (v : V) : Prop := ∃ t, v = .ref t ∧ H t = some (.tup (x.map V.int))
def TupsAt (H : Hp) (xss : List (List Int)) (vs : List V) : Prop := Row (TupI H) xss vs
theorem TupI.mono {H H' : Hp} {x : List Int} {v : V} (S : TupS H H') (h : TupI H x v) : TupI H' x v := by
  obtain ⟨t, rfl, e⟩ := h
  exact ⟨t, rfl, S _ _ e⟩
theorem TupsAt.mono {H H' : Hp} {xss : List (List Int)} {vs : List V} (S : TupS H H') (h : TupsAt H xss vs) : TupsAt H' xss vs := Row.imp h fun _ _ _ r => r.mono S
/-- a list or a tuple of ints -/
def SeqI (K : PySem.W.Frag) (H : Hp) (x : List Int) (v : V) : Prop := ∃ t, v = .ref t ∧ (SqL K H t (x.map V.int) ∨ SqT K H t (x.map V.int))
theorem SeqI.same {K : PySem.W.Frag} {H H' : Hp} {x : List Int} {v : V} (S : Same H H') (h : SeqI K H x v) : SeqI K H' x v := by
  obtain ⟨t, rfl, e | e⟩ := h
  · exact ⟨t, rfl, .inl (S.seq e)⟩
  · exact ⟨t, rfl, .inr (same_sqT S e)⟩
theorem TupI.seq {K : PySem.W.Frag} {H : Hp} {x : List Int} {v : V} (h : TupI H x v) : SeqI K H x v := by
  obtain ⟨t, rfl, e⟩ := h
  exact ⟨t, rfl, .inr (SqT.of e)⟩
theorem tups_dp {K : PySem.W.Frag} {H : Hp} : ∀ {xss : List (List Int)} {vs : List V}, TupsAt H xss vs → DpAll K H vs (xss.map fun x => PyData.tuple (x.map PyData.int))
  | [], vs, h => by
    cases vs with
    | nil => exact .nil
    | cons _ _ => have := h.1; simp at this
  | x :: xss, vs, h => by
    obtain ⟨v, r, rfl, ⟨t, rfl, e⟩, g⟩ := Row.uncons h
    exact .cons (.tup (SqT.of e) (dp_ints x)) (tups_dp g)
theorem sh_tups {n : Nat} (xss : List (List Int)) : ∀ d ∈ xss.map (fun x => PyData.tuple (x.map PyData.int)), Sh (n + 1) d := fun d h => by
  obtain ⟨x, _, rfl⟩ := List.mem_map.mp h
  exact Sh.tup (sh_ints x)
/-- a pen: a list of a script and of numbers -/
def Pn (K : PySem.W.Frag) (n : Nat) (H : Hp) (p : Addr) : Prop := ∃ (sa : Addr) (ns ks : List Int), Scr K H sa ns ∧ ks.length = n ∧ (∀ x ∈ ks, 0 ≤ x) ∧ H p = some (.lst (.ref sa :: ks.map V.int))
section
variable {K : PySem.W.Frag} {H H' : Hp} {p q : Addr} {n : Nat} {o : HO}
theorem Pn.ne (h : Pn K n H p) (hq : H q = none) : q ≠ p := by
  obtain ⟨sa, ns, ks, hS, hl, hk, hp⟩ := h
  exact (ne_of_none hp hq).symm
theorem Pn.but (h : Pn K n H p) (B : But q H H') (m : p ≠ q) : Pn K n H' p := by
  obtain ⟨sa, ns, ks, hS, hl, hk, hp⟩ := h
  exact ⟨sa, ns, ks, hS.but B, hl, hk, B _ _ (.inl m) hp⟩
theorem Pn.butN (h : Pn K n H p) (B : But q H H') (m : q ≠ p) : Pn K n H' p := h.but B m.symm
theorem Pn.same (h : Pn K n H p) (S : Same H H') : Pn K n H' p := by
  obtain ⟨sa, ns, ks, hS, hl, hk, hp⟩ := h
  exact ⟨sa, ns, ks, hS.same S, hl, hk, S _ _ hp⟩
theorem Pn.new (h : Pn K n H p) (hq : H q = none) : Pn K n (upd H q o) p := h.same (same_new hq)
theorem Pn.tups (h : Pn K n H p) (B : But p H H') : TupS H H' := by
  obtain ⟨sa, ns, ks, hS, hl, hk, hp⟩ := h
  exact TupS.but B hp fun ys e => by cases e
theorem Pn.nei (h : Pn K n H p) {xs : List Int} (hq : H q = some (.lst (xs.map V.int))) : q ≠ p := by
  obtain ⟨sa, ns, ks, hS, hl, hk, hp⟩ := h
  exact ne_of hq hp (by
    intro z
    injection z with z
    cases xs with
    | nil => cases z
    | cons x xs => injection z with z _; cases z)
theorem Pn.net (h : Pn K n H p) {xs : List V} (hq : H q = some (.tup xs)) : q ≠ p := by
  obtain ⟨sa, ns, ks, hS, hl, hk, hp⟩ := h
  exact ne_of hq hp (by intro z; cases z)
end
theorem TupS.butL {p : Addr} {H H' : Hp} {xs : List V} (S : But p H H') (hp : H p = some (.lst xs)) : TupS H H' := TupS.but S hp fun ys e => by cases e
/-- is, of None or of truths -/
def rIsU : R2 := fun x y H Q => rIsNz x y H Q ∨ rIsB x y H Q
def rNotU : R2 := fun x y H Q => rNotNz x y H Q ∨ rNotB x y H Q
theorem op_isU {X : Cx} : OpR X (compareOp .Is) rIsU := OpR.or op_isNz op_isBl
theorem op_notU {X : Cx} : OpR X (compareOp .IsNot) rNotU := OpR.or op_notNz op_notBl
section
variable {K : PySem.W.Frag} {σ : L2.St} {H : Hp} {Q : VK} {N b c : L2.St → Hp → Prop} {r : VK} {te : TE} {x y : V} {i : Int} {n : Nat} {p q : Addr} {xs : List V} {j k : Bool}
theorem s_isU_n (h : rIsNz x .non H Q) : rIsU x .non H Q := .inl h
theorem s_notU_n (h : rNotNz x .non H Q) : rNotU x .non H Q := .inl h
theorem s_isU_b (h : Q (.bl (decide (j = k))) H) : rIsU (.bl j) (.bl k) H Q := .inr ⟨j, k, rfl, rfl, h⟩
theorem s_notU_b (h : Q (.bl (!decide (j = k))) H) : rNotU (.bl j) (.bl k) H Q := .inr ⟨j, k, rfl, rfl, h⟩
/-- an item of a literal list of ints -/
theorem s_ixI (ns : List Int) (h1 : SqL K H p xs) (e : xs = ns.map V.int) (h2 : 0 ≤ i) (h3 : i < ns.length) (h : ∀ w, w ∈ ns → ns[i.toNat]? = some w → Q (.int w) H) : rIx K (.ref p) (.int i) H Q := by
  subst e
  have hl : i.toNat < ns.length := by omega
  refine s_ix_l h1 (v := .int ns[i.toNat]) (at_of (j := i.toNat) (by omega) (by rw [List.getElem?_map, List.getElem?_eq_getElem hl]; rfl)) ?_
  exact h _ (List.getElem_mem _) (List.getElem?_eq_getElem hl)
theorem s_ixN {ns : List V} {m : Nat} {v : V} (h1 : SqL K H p ns) (h2 : ns[m]? = some v) (h : Q v H) : rIx K (.ref p) (.int (m : Int)) H Q := s_ix_l h1 (atI_nat h2) h
theorem s_ixTN {ns : List V} {m : Nat} {v : V} (h1 : SqT K H p ns) (h2 : ns[m]? = some v) (h : Q v H) : rIx K (.ref p) (.int (m : Int)) H Q := s_ix_t h1 (atI_nat h2) h
end
section
variable {K : PySem.W.Frag} {H : Hp} {Q : VK} {p q a : Addr} {xs : List V} {i : Int} {x : V} {te : TE} {σ : L2.St}
theorem tyx_l (h : SqL K H p xs) : TyX K H (.ref p) (.type "list") := by
  rcases h with (h | ⟨o, h⟩) | ⟨o, its, n, h, hc, _⟩
  · exact .base (.lst h)
  · exact .base (.frz h)
  · exact .kList h hc
theorem tyx_t (h : SqT K H p xs) : TyX K H (.ref p) (.type "tuple") := by
  rcases h with (h | ⟨o, h⟩) | ⟨o, its, n, h, hc, _⟩
  · exact .base (.tup h)
  · exact .fTuple h
  · exact .kTuple h hc
theorem kit_any2 {K : PySem.W.Frag} {a b c : String} {r r' : Bool} (h1 : kitB a b = some r) (h2 : kitB a c = some r') : PySem.W.kitAny K (.type a) [.type b, .type c] = some (r || r') := by
  unfold PySem.W.kitAny
  have e1 := kit_ty (K := K) h1
  have e2 := kit_ty (K := K) h2
  show (match PySem.W.kitOne K (.type a) (.type b) with | some true => some true | some false => PySem.W.kitAny K (.type a) [.type c] | none => none) = _
  rw [e1]
  cases r with
  | true => rfl
  | false =>
    show (match PySem.W.kitOne K (.type a) (.type c) with | some true => some true | some false => some false | none => none) = _
    rw [e2]
    cases r' <;> rfl
theorem s_isiT {cs : List V} {t : Value} {us : List Value} {bb : Bool} (h1 : H q = some (.tup cs)) (h2 : Paired ClsV cs us) (h3 : TyX K H x t) (h4 : PySem.W.kitAny K t us = some bb) (h : Q (.bl bb) H) : rIsi2 K [x, .ref q] H Q := .inr ⟨x, q, cs, t, us, bb, rfl, h1, h2, h3, h4, h⟩
theorem isi_lt_l (h1 : H q = some (.tup [.ty "list", .ty "tuple"])) (h2 : SqL K H p xs) (h : Q (.bl true) H) : rIsi2 K [.ref p, .ref q] H Q :=
  s_isiT h1 (.cons (.ty _) (.cons (.ty _) .nil)) (tyx_l h2) (kit_any2 (r := true) (r' := false) (by decide +kernel) (by decide +kernel)) h
theorem isi_lt_t (h1 : H q = some (.tup [.ty "list", .ty "tuple"])) (h2 : SqT K H p xs) (h : Q (.bl true) H) : rIsi2 K [.ref p, .ref q] H Q :=
  s_isiT h1 (.cons (.ty _) (.cons (.ty _) .nil)) (tyx_t h2) (kit_any2 (r := false) (r' := true) (by decide +kernel) (by decide +kernel)) h
theorem isi_list (h2 : SqL K H p xs) (h : Q (.bl true) H) : rIsi2 K [.ref p, .ty "list"] H Q := s_isi (bb := true) (.ty _) (tyx_l h2) (kit_ty (by decide +kernel)) h
theorem isi_tup (h2 : SqT K H p xs) (h : Q (.bl true) H) : rIsi2 K [.ref p, .ty "tuple"] H Q := s_isi (bb := true) (.ty _) (tyx_t h2) (kit_ty (by decide +kernel)) h
theorem isi_int (h : Q (.bl true) H) : rIsi2 K [.int i, .ty "int"] H Q := s_isi (bb := true) (.ty _) (.base (.int i)) (kit_ty (by decide +kernel)) h
theorem isi_int_bool (h : Q (.bl false) H) : rIsi2 K [.int i, .ty "bool"] H Q := s_isi (bb := false) (.ty _) (.base (.int i)) (kit_ty (by decide +kernel)) h
/-- for x in a list or a tuple -/
def iUn (K : PySem.W.Frag) (te : TE) : TI := fun σ H R => iList K te σ H R ∨ iTup K te σ H R
theorem pi_un {X : Cx} {tg e : Expr} {te : TE} (h : PE X e te) : PI X tg e (iUn X.K te) :=
  ⟨fun pins s σ H R I z => z.elim (fun z => (pi_list h).run pins s σ H R I z) fun z => (pi_tup h).run pins s σ H R I z⟩
theorem s_iun_l {R : It → Hp → Prop} (h : te σ H fun x H1 => zItL K x H1 R) : iUn K te σ H R := .inl h
theorem s_iun_t {R : It → Hp → Prop} (h : te σ H fun x H1 => zItT K x H1 R) : iUn K te σ H R := .inr h
end
/-- a list or a tuple that is gone through -/
def SqB (K : PySem.W.Frag) : Bool → Hp → Addr → List V → Prop
  | true, H, p, xs => SqL K H p xs
  | false, H, p, xs => SqT K H p xs
def Itu (K : PySem.W.Frag) (p : Addr) : Bool → It
  | true => Itl K p
  | false => Itt K p
theorem SqB.same {K : PySem.W.Frag} {k : Bool} {H H' : Hp} {p : Addr} {xs : List V} (S : Same H H') (h : SqB K k H p xs) : SqB K k H' p xs := by
  cases k with
  | true => exact S.seq h
  | false => exact same_sqT S h
theorem SqB.but {K : PySem.W.Frag} {k : Bool} {H H' : Hp} {p q : Addr} {xs : List V} (B : But q H H') (n : p ≠ q) (h : SqB K k H p xs) : SqB K k H' p xs := by
  cases k with
  | true => exact B.sqL n h
  | false => exact B.sqT n h
section
variable {K : PySem.W.Frag} {H : Hp} {Q : VK} {p q a : Addr} {xs : List V} {i : Int} {x : V} {te : TE} {σ : L2.St} {k : Bool} {g : TG} {N b c : L2.St → Hp → Prop} {r : VK} {t : TT} {n : Nat}
theorem s_iunV {R : It → Hp → Prop} (h : SqL K H p xs ∨ SqT K H p xs) (hv : σ[n]? = some (some (.ref p))) (hR : ∀ k, SqB K k H p xs → R (Itu K p k) H) : iUn K (tVar n) σ H R :=
  h.elim (fun z => .inl ⟨_, hv, p, rfl, ⟨xs, z⟩, hR true z⟩) fun z => .inr ⟨_, hv, p, rfl, ⟨xs, z⟩, hR false z⟩
theorem loop_un {tb1 : TS} (xs : List V) (Pv : Nat → L2.St → Hp → Prop) (h0 : Pv 0 σ H) (hl : ∀ i σ' H', i ≤ xs.length → Pv i σ' H' → SqB K k H' p xs)
    (hs : ∀ i x σ' H', xs[i]? = some x → Pv i σ' H' → g x σ' H' fun σ2 H2 => tb1 ⟨Pv (i + 1), r, N, Pv (i + 1)⟩ σ2 H2) (hd : ∀ σ' H', Pv xs.length σ' H' → N σ' H') : zLoop (Itu K p k) g tb1 ⟨N, r, b, c⟩ σ H := by
  cases k with
  | true => exact loop_list xs Pv h0 hl hs hd
  | false => exact loop_tup xs Pv h0 hl hs hd
theorem lc_un {vs : List Nat} (xs : List V) (Pv : Addr → Nat → Hp → Prop) (h0 : ∀ D, H D = none → Pv D 0 (upd H D (.lst []))) (hl : ∀ D i H', H D = none → i ≤ xs.length → Pv D i H' → SqB K k H' p xs)
    (hs : ∀ D i x H', H D = none → xs[i]? = some x → Pv D i H' → g x (wipe σ vs) H' fun σ2 H2 => zWipe vs σ σ2 (t σ2 H2 fun k H3 => zIf k (te σ2 H3 fun y H4 => zAcc D y H4 (Pv D (i + 1))) (Pv D (i + 1) H3)))
    (hd : ∀ D H', H D = none → Pv D xs.length H' → Q (.ref D) H') : zLc (Itu K p k) g t te vs σ H Q := by
  cases k with
  | true => exact lc_lst xs Pv h0 hl hs hd
  | false => exact lc_tp xs Pv h0 hl hs hd
/-- in a list or a tuple -/
theorem s_ixU {z : Int} {v : V} (h1 : SqL K H p xs ∨ SqT K H p xs) (h2 : atI xs z = some v) (h : Q v H) : rIx K (.ref p) (.int z) H Q := h1.elim (fun y => s_ix_l y h2 h) fun y => s_ix_t y h2 h
theorem s_lenU (h1 : SqL K H p xs ∨ SqT K H p xs) (h : Q (.int xs.length) H) : rLen K [.ref p] H Q := h1.elim (fun y => s_len_l y h) fun y => s_len_t y h
theorem s_gunU {tg : TGs} {NN : L2.St → Hp → Prop} (hs : SqL K H p xs ∨ SqT K H p xs) (hl : xs.length = n) (h : tg xs σ H NN) : gUn K n tg (.ref p) σ H NN := hs.elim (fun y => s_gun_l y hl h) fun y => s_gun_t y hl h
theorem s_listU (h1 : SqL K H p xs ∨ SqT K H p xs) (h : ∀ l, H l = none → Q (.ref l) (upd H l (.lst xs))) : rListOf K [.ref p] H Q := h1.elim (fun y => s_listof_l y h) fun y => s_listof_t y h
theorem isi_ltU (h1 : H q = some (.tup [.ty "list", .ty "tuple"])) (h2 : SqL K H p xs ∨ SqT K H p xs) (h : Q (.bl true) H) : rIsi2 K [.ref p, .ref q] H Q := h2.elim (fun y => isi_lt_l h1 y h) fun y => isi_lt_t h1 y h
end
theorem seqU_same {K : PySem.W.Frag} {H H' : Hp} {p : Addr} {xs : List V} (S : Same H H') (h : SqL K H p xs ∨ SqT K H p xs) : SqL K H' p xs ∨ SqT K H' p xs := h.imp S.seq (same_sqT S)
theorem seqU_but {K : PySem.W.Frag} {H H' : Hp} {p q : Addr} {xs : List V} (B : But q H H') (n : p ≠ q) (h : SqL K H p xs ∨ SqT K H p xs) : SqL K H' p xs ∨ SqT K H' p xs := h.imp (B.sqL n) (B.sqT n)
theorem inV_ints (i : Int) (ns : List Int) : inV (.int i) (ns.map V.int) = decide (i ∈ ns) := by
  unfold inV
  induction ns with
  | nil => simp
  | cons a ns ih =>
    rw [List.map_cons, List.any_cons, ih]
    have : eqV (.int a) (.int i) = decide (i = a) := by
      show (a == i) = _
      by_cases c : i = a
      · subst c; simp
      · rw [decide_eq_false c]; simpa using fun z => c z.symm
    rw [this]
    by_cases c : i = a <;> simp [c]
theorem cut_takeI (ys : List Int) (j : Nat) : cutV (ys.map V.int) none (some (j : Int)) = (ys.take j).map V.int := by
  unfold cutV
  rw [HT.sIx_none, HT.sIx_nat, List.drop_zero, Nat.sub_zero, List.length_map, ← List.map_take]
  congr 1
  by_cases h : j ≤ ys.length
  · rw [Nat.min_eq_left h]
  · rw [Nat.min_eq_right (by omega), List.take_of_length_le (by omega), List.take_of_length_le (by omega)]
theorem cut_dropI (ys : List Int) (j : Nat) : cutV (ys.map V.int) (some (j : Int)) none = (ys.drop j).map V.int := by
  unfold cutV
  rw [HT.sIx_none, HT.sIx_nat, List.length_map]
  by_cases h : j ≤ ys.length
  · rw [Nat.min_eq_left h, ← List.map_drop, List.take_of_length_le (by rw [List.length_map, List.length_drop]; omega)]
  · rw [Nat.min_eq_right (by omega), List.drop_eq_nil_of_le (by rw [List.length_map]; omega), List.drop_eq_nil_of_le (by omega)]
    simp
theorem SqB.of {K : PySem.W.Frag} {H : Hp} {p : Addr} {xs : List V} (h : SqL K H p xs ∨ SqT K H p xs) : ∃ k, SqB K k H p xs := h.elim (fun z => ⟨true, z⟩) fun z => ⟨false, z⟩
theorem SqB.or {K : PySem.W.Frag} {H : Hp} {p : Addr} {xs : List V} {k : Bool} (h : SqB K k H p xs) : SqL K H p xs ∨ SqT K H p xs := by
  cases k with
  | true => exact .inl h
  | false => exact .inr h
theorem s_iunB {K : PySem.W.Frag} {σ : L2.St} {H : Hp} {n : Nat} {p : Addr} {xs : List V} {k : Bool} {R : It → Hp → Prop} (h : SqB K k H p xs) (hv : σ[n]? = some (some (.ref p))) (hR : R (Itu K p k) H) : iUn K (tVar n) σ H R := by
  cases k with
  | true => exact .inl ⟨_, hv, p, rfl, ⟨xs, h⟩, hR⟩
  | false => exact .inr ⟨_, hv, p, rfl, ⟨xs, h⟩, hR⟩
theorem ixN_nat {n i : Nat} (h : i < n) : ixN n (i : Int) = some i := by
  unfold ixN
  rw [if_pos (by omega), if_pos (by omega), Int.toNat_natCast]
theorem s_iunE {K : PySem.W.Frag} {σ : L2.St} {H : Hp} {p : Addr} {xs : List V} {k : Bool} {te : TE} {R : It → Hp → Prop} (hte : ∀ Q : VK, Q (.ref p) H → te σ H Q) (h : SqB K k H p xs) (hR : R (Itu K p k) H) : iUn K te σ H R := by
  cases k with
  | true => exact .inl (hte _ ⟨p, rfl, ⟨xs, h⟩, hR⟩)
  | false => exact .inr (hte _ ⟨p, rfl, ⟨xs, h⟩, hR⟩)
theorem s_tupU {K : PySem.W.Frag} {H : Hp} {p : Addr} {xs : List V} {Q : VK} (h1 : SqL K H p xs ∨ SqT K H p xs) (h : ∀ l H', Same H H' → SqT K H' l xs → Q (.ref l) H') : rTupOf K [.ref p] H Q :=
  h1.elim (fun y => s_tupof_l y fun l hl => h l _ (same_new hl) (SqT.of upd_same)) fun y => s_tupof_t y (h p H (Same.refl _) y)
theorem at_neg1 {xs : List V} {v : V} (h : xs[xs.length - 1]? = some v) : atI xs (-1) = some v := by
  have hl := (List.getElem?_eq_some_iff.mp h).1
  have e : ixN xs.length (-1) = some (xs.length - 1) := by
    unfold ixN
    rw [if_neg (by omega), if_pos (by omega)]
    congr 1
    omega
  unfold atI
  rw [e]
  exact h
theorem sqL_ins {K : PySem.W.Frag} {H H' : Hp} {p l : Addr} {o : HO} {xs : List V} (hp : H p = some o) (no : ∀ ys, o ≠ .lst ys) (B : But p H H') (h : SqL K H l xs) : SqL K H' l xs := by
  rcases h with (h | ⟨u, h⟩) | h
  · exact .inl (.inl (B _ _ (.inl (ne_of h hp fun z => no _ z.symm)) h))
  · exact .inl (.inr ⟨u, B _ _ (.inr trivial) h⟩)
  · exact .inr h
theorem s_cutT {K : PySem.W.Frag} {H : Hp} {Q : VK} {a : Addr} {xs : List V} {lo hi : Option Int} (h1 : SqT K H a xs) (hn : ¬ (HT.sIx xs.length 0 lo = 0 ∧ HT.sIx xs.length xs.length hi = xs.length)) (h : ∀ p, H p = none → Q (.ref p) (upd H p (.tup (cutV xs lo hi)))) : rSlU K (.ref a) lo hi H Q :=
  .inr ⟨a, xs, rfl, h1, fun z => absurd z hn, fun _ => h⟩
theorem s_cutTw {K : PySem.W.Frag} {H : Hp} {Q : VK} {a : Addr} {xs : List V} {lo hi : Option Int} (h1 : SqT K H a xs) (hn : HT.sIx xs.length 0 lo = 0 ∧ HT.sIx xs.length xs.length hi = xs.length) (h : Q (.ref a) H) : rSlU K (.ref a) lo hi H Q :=
  .inr ⟨a, xs, rfl, h1, fun _ => h, fun z => absurd hn z⟩
theorem cut_front {xs : List V} {v : V} : cutV (xs ++ [v]) none (some (-1)) = xs := by
  have e : HT.sIx (xs ++ [v]).length (xs ++ [v]).length (some (-1)) = xs.length := by
    show (if (-1 : Int) < 0 then ((-1 : Int) + ((xs ++ [v]).length : Int)).toNat else min (-1 : Int).toNat (xs ++ [v]).length) = _
    rw [if_pos (by decide), List.length_append, List.length_singleton]
    omega
  unfold cutV
  rw [e]
  show List.take (xs.length - 0) (List.drop 0 _) = _
  rw [Nat.sub_zero, List.drop_zero, List.take_left]
/-! ### d.update(d2); ValueError.__init__ -/
theorem find_vei {K : PySem.W.Frag} : PySem.W.findCls K (.type "ValueError") (.type "type") "__init__" = some (.val (.builtin "ValueError.__init__")) := by kernel_rfl
def tDUpd (td ty : TE) : TE := fun σ H Q => td σ H fun x H1 => ∃ a, x = .ref a ∧ IsD H1 a ∧ ty σ H1 fun y H2 => ∃ (b : Addr) (kvs more : List (Key × V)), y = .ref b ∧ a ≠ b ∧ H2 a = some (.dK kvs) ∧ H2 b = some (.dK more) ∧ kvs.length + more.length ≤ 1000 ∧ Q .non (upd H2 a (.dK (mergeK kvs more)))
section
variable {X : Cx} {pins : List (Addr × Obj)} {σ : L2.St} {H : Hp} {s : Shared} {a b : Addr} {kvs more : List (Key × V)} {A : Around} {E : Value → Shared → Prop}
theorem d_update {Q : Value → Shared → Prop} (I : Inv X pins σ H s) (e : H a = some (.dK kvs)) (e2 : H b = some (.dK more)) (ne : a ≠ b) (hl : kvs.length + more.length ≤ 1000)
    (h : ∀ s', Inv X pins σ (upd H a (.dK (mergeK kvs more))) s' → Q .none s') : wpAny (model X.prog X.w) A (call (.builtin "dict.update") [.ref a, .ref b]) Q E s := by
  obtain ⟨z, hd, vs, rel, dd⟩ := dk_of I.hok e
  obtain ⟨z2, hd2, ws, rel2, dd2⟩ := dk_of I.hok e2
  have hz : vs.length + ws.length ≤ sizeLine := by
    rw [← rel.length, ← rel2.length]
    rw [sizeLine_eq]
    omega
  refine call_meetsIn PySem.F.slot_dict_update dd.typeIs PySem.F.entry_dict_update (PySem.F.args_dict_update_2 _ _) (meets_dict_update (mixKind X.prog X.w) a b ne hd2) ⟨vs, ws, dd, dd2, hz, fun h' dd' _ hs => h _ ?_⟩
  have he : ∃ q, h'.get? a = some q := let ⟨q, _, _, hq, _⟩ := dd'; ⟨q, hq⟩
  have hlen : (mergeK kvs more).length ≤ sizeLine := by
    refine Nat.le_trans (length_mergeK more kvs) ?_
    rw [sizeLine_eq]
    omega
  exact d_write (t' := s.toks) I (by rw [e]; exact True.intro) hs he (dk_new hlen hd (KV.merge rel2 rel) dd')
end
section
variable {X : Cx} {o e : Expr} {apos cpos : Pos} {td ty : TE}
theorem pe_dupd (ho : PE X o td) (he : PE X e ty) (m : M1 X o "update" apos e cpos) : PE X (.Call (.Attribute o "update" apos) [e] [] cpos) (tDUpd td ty) := by
  refine ⟨fun pins s σ H Q I h => ?_⟩
  refine wpAny_Call_method m.base m.few m.line PySem.F.plainAttrs_dict PySem.F.slot_dict_update PySem.F.type_dict_update (thn (ho.run pins s σ H _ I h) fun u s1 ⟨x, H1, I1, rx, a, ex, d, q1⟩ => ?_)
  subst ex
  obtain rfl : u = Value.ref a := rx
  obtain ⟨t1, t2, _⟩ := isD_at I1 d
  refine ⟨t1, t2, ?_⟩
  rw [m.trees]
  refine Calls.callWith_builtin rfl (Calls.evalArgs_plain (Calls.spliced_cons (thn (he.run pins s1 σ H1 _ I1 q1) fun iv s2 ⟨y, H2, I2, ry, b, kvs, more, ey, ne, ea, eb, hl, q2⟩ => Calls.spliced_nil ?_)))
  subst ey
  obtain rfl : iv = Value.ref b := ry
  exact d_update I2 ea eb ne hl fun s3 I3 => ⟨.non, _, I3, rfl, q2⟩
end
theorem s_dupd {td ty : TE} {σ : L2.St} {H : Hp} {Q : VK} (h : td σ H fun x H1 => ∃ a, x = .ref a ∧ IsD H1 a ∧ ty σ H1 fun y H2 => ∃ (b : Addr) (kvs more : List (Key × V)), y = .ref b ∧ a ≠ b ∧ H2 a = some (.dK kvs) ∧ H2 b = some (.dK more) ∧ kvs.length + more.length ≤ 1000 ∧ Q .non (upd H2 a (.dK (mergeK kvs more)))) : tDUpd td ty σ H Q := h
/-- list(range(n)) -/
def zRgL (x : V) (H : Hp) (Q : VK) : Prop := ∃ n, x = .int n ∧ RgOk 0 n ∧ ∀ q, H q = none → Q (.ref q) (upd H q (.lst (rgV 0 n)))
theorem s_lstRg {ta : TE} {σ : L2.St} {H : Hp} {Q : VK} (h : ta σ H fun x H1 => zRgL x H1 Q) : tLstRg (tRg1 ta) σ H Q := h
theorem s_zRgL {n : Int} {H : Hp} {Q : VK} (h1 : 0 ≤ n ∧ n ≤ 1000000) (h : ∀ q, H q = none → Q (.ref q) (upd H q (.lst (((List.range n.toNat).map fun i : Nat => (i : Int)).map V.int)))) : zRgL (.int n) H Q :=
  ⟨n, rfl, ⟨by omega, by omega, by omega, by omega, by omega⟩, fun q hq => by
    have e : rgV 0 n = ((List.range n.toNat).map fun i : Nat => (i : Int)).map V.int := by
      unfold rgV
      rw [Int.sub_zero, List.map_map]
      apply List.map_congr_left
      intro i _
      show V.int (0 + (i : Int)) = V.int (i : Int)
      rw [Int.zero_add]
    rw [e]; exact h q hq⟩
theorem merge {P : Hp → Prop} {G : Prop} (C : Hp → Prop) (h : (∀ H', C H' → P H') → G) (k : ∀ H', C H' → P H') : G := h k
theorem s_andp {u : TT} {σ : L2.St} {H : Hp} {QB : Bool → Hp → Prop} {k : Bool} (k2 : Bool) (hu : QB k2 H → u σ H QB) (h : QB (k && k2) H) : zIf k (u σ H QB) (QB false H) := by
  cases k
  · exact s_iff h
  · exact s_ift (hu h)
end Z

set_option Elab.async false
set_option linter.all false
set_option maxRecDepth 100000
set_option maxHeartbeats 4000000
/-! ### enumerate over a list or a tuple -/
namespace Z
open PySem PySem.Spec PyProof.Rows L2
open Sem (wp)
open AutoSeq1 (wpAny_loadPart')
theorem meets_enumT (l : Addr) (items : Array Value) (n : Nat) (dct : Option Addr) (sl : Array (Option Value)) :
    Meets (Builtin.«enumerate.__new__» ⟨[.type "enumerate", .ref l], []⟩) (fun _ R s => s.heap.get? l = some { cls := .type "tuple", dict := dct, data := .seq items n, slots := sl } ∧
      R (.ok (.ret (.ref (s.heap.push { cls := .type "tuple_iterator", data := .fields #[.ref l, .int 0 0] }).objs.size)))
        { s with heap := (s.heap.push { cls := .type "tuple_iterator", data := .fields #[.ref l, .int 0 0] }).push { cls := .type "enumerate", data := .fields #[.none, .bool false, .ref s.heap.objs.size, rawInt 0, .none, .none] } }) :=
  .of_wp fun prog w A R s h => by
    obtain ⟨hp, g, d, tk, os⟩ := s; obtain ⟨hl, h⟩ := h
    have hsub := sub_enumerate
    have hL : Heap.IsTuple (Shared.heap ⟨hp, g, d, tk, os⟩) l items := ⟨_, hl, rfl, n, rfl⟩
    wp_walk using wpAny_loadPart' hl
    refine wpAny_stack_any fun st => wpAny_pure ?_
    split
    · rename_i c _ _ _ _ _
      cases (c == Value.type "enumerate")
      · wp_walk using wpAny_loadPart' hl, wpAny_pyIter_tuple hL
        exact ⟨_, rfl, h⟩
      · wp_walk using wpAny_loadPart' hl, wpAny_pyIter_tuple hL
        exact ⟨_, rfl, h⟩
    · wp_walk using wpAny_loadPart' hl, wpAny_pyIter_tuple hL
      exact ⟨_, rfl, h⟩
theorem call_enumT {prog : Program} {w : World} {A : Around} {E : Value → Shared → Prop} {s : Shared} {l : Addr} {items : Array Value} {Q : Value → Shared → Prop} (hL : s.heap.IsTuple l items)
    (h : ∀ h', IsEnum h' (s.heap.objs.size + 1) s.heap.objs.size 0 .none → h'.IsTupleIter s.heap.objs.size l 0 → h'.objs.size = s.heap.objs.size + 2 →
      (∀ b o, s.heap.get? b = some o → h'.get? b = some o) → Q (.ref (s.heap.objs.size + 1)) { s with heap := h' }) :
    wpAny (model prog w) A (call (.type "enumerate") [.ref l]) Q E s := by
  obtain ⟨⟨c, dct, dt, sl⟩, hl, hc, n, hd⟩ := hL
  replace hc : c = .type "tuple" := hc
  replace hd : dt = .seq items n := hd
  subst hc hd
  refine callType_new F.called_enumerate (by decide) (F.typeCall_enumerate_1 _) (F.newCall_enumerate_1 _) (fun obj => F.args_object_init_2 obj _) F.entry_enumerate_new
    (meets_enumT l items n dct sl) ⟨hl, ?_⟩
  have hz : (s.heap.push { cls := .type "tuple_iterator", data := .fields #[.ref l, .int 0 0] }).objs.size = s.heap.objs.size + 1 := Heap.size_push ..
  show _ ∧ _
  rw [hz]
  have he : IsEnum ((s.heap.push { cls := .type "tuple_iterator", data := .fields #[.ref l, .int 0 0] }).push
      { cls := .type "enumerate", data := .fields #[.none, .bool false, .ref s.heap.objs.size, rawInt 0, .none, .none] }) (s.heap.objs.size + 1) s.heap.objs.size 0 .none := by
    have := Heap.get?_push_size (s.heap.push { cls := .type "tuple_iterator", data := .fields #[.ref l, .int 0 0] })
      (o := { cls := .type "enumerate", data := .fields #[.none, .bool false, .ref s.heap.objs.size, rawInt 0, .none, .none] }) rfl
    rw [hz] at this; exact this
  refine ⟨⟨_, he, rfl⟩, h _ he ⟨_, Heap.get?_push_of_some _ (Heap.get?_push_size _ rfl), rfl, rfl⟩ (by rw [Heap.size_push, hz]) fun b o x => Heap.get?_push_of_some _ (Heap.get?_push_of_some _ x)⟩
/-- the tuple at a as it stands at each turn, each item in a new pair -/
def IteT (K : PySem.W.Frag) (a : Addr) : It :=
  ⟨fun i H => ∃ (xs : List V) (x : V), SqT K H a xs ∧ xs[i]? = some x, fun i H v H' => ∃ T x, v = .ref T ∧ H T = none ∧ H' = upd H T (.tup [.int (i : Nat), x]) ∧ ∀ xs, SqT K H a xs → xs[i]? = some x, fun i H => ∃ xs : List V, SqT K H a xs ∧ xs.length ≤ i⟩
theorem turn_enumT {P : Program} {w : World} {K : PySem.W.Frag} {elts : List Expr} {kk : Nat} {tpos : Pos} (a e it : Addr) :
    Turn P w K (.Tuple elts kk tpos) (IteT K a) [e, it] e (fun i h => (∃ old, IsEnum h e it ((i : Nat) : Int) old) ∧ h.IsTupleIter it a i ∧ e ≠ it ∧ a ≠ it ∧ a ≠ e) where
  mem := by simp
  obj := fun i h st b hb => by
    obtain ⟨⟨old, he⟩, ⟨o, ho, hc, hd⟩, _⟩ := st
    have e' : b = e ∨ b = it := by simpa using hb
    rcases e' with z | z
    · rw [z]; exact ⟨_, he, fun v q => nomatch q⟩
    · rw [z]; exact ⟨o, ho, fun v q => by rw [hd] at q; cases q⟩
  keep := fun i h h' st k => let ⟨⟨old, he⟩, hi, hne⟩ := st; ⟨⟨old, k e (by simp) _ he⟩, hi.at fun o q => k it (by simp) o q, hne⟩
  item := by
    intro X hP hw hK hc i pins s σ H E I hf st hg
    subst hP hw hK
    obtain ⟨⟨old, he⟩, hit, hne, hai, hae⟩ := st
    obtain ⟨xs, x, hq, hx⟩ := hg
    obtain ⟨its, rv, p, hz⟩ := I.tuple hq
    obtain ⟨u, hu, ru⟩ := rv.get hx
    have hel : e < s.heap.objs.size := Heap.lt_size he
    have hil : it < s.heap.objs.size := by obtain ⟨_, q, _⟩ := hit; exact Heap.lt_size q
    have hh : X.A.handled = none := I.ok.hd hc
    have hlt : i < its.toArray.size := by
      have := (List.getElem?_eq_some_iff.mp hu).1
      simpa using this
    refine wpAny_pyNext_enum_itemD (Draws.tuple (A := X.A.in1) hh it a hai its.toArray) he ⟨hit, p⟩ hlt hne (by simp; exact ⟨hne, Ne.symm hae⟩) fun x' h' tk hP' ho hit' hT hsz hk => ?_
    have ex : x' = u := by
      have h1 : its[i]? = some x' := by simpa using hP'
      rw [hu] at h1
      exact (Option.some.inj h1).symm
    subst ex
    refine ⟨_, rfl, wpAny_letOwnedTupleGo_enum (s := { s with heap := h', toks := tk + 1 }) ho fun h'' he' sb => ?_⟩
    have hT2 : h''.get? s.heap.objs.size = some { cls := .type "tuple", data := .seq #[.int i tk, x'] } := (sb.2 _ (Nat.ne_of_gt hel)).trans hT
    have new : ObjOk X.prog X.w (upd H s.heap.objs.size (.tup [.int (i : Nat), x])) h'' s.heap.objs.size (.tup [.int (i : Nat), x]) :=
      ⟨by show 2 ≤ sizeLine; decide, [.int i tk, x'], .cons ⟨_, rfl⟩ (.cons ru .nil), ⟨_, hT2, rfl, _, rfl⟩⟩
    have I1 : Inv X pins σ (upd H s.heap.objs.size (.tup [.int (i : Nat), x])) { s with heap := h'', toks := tk + 1 } :=
      I.turnedNew (ch := [e, it]) (fun b ob hb q => (sb.2 b (fun z => hb (by simp [z]))).trans (hk b ob (fun z => hb (by simp [z])) (fun z => hb (by simp [z])) q)) hf (Nat.le_refl _) new
    refine ⟨.ref s.heap.objs.size, _, I1, rfl, ⟨_, x, rfl, I.hok.fresh (Nat.le_refl _), rfl, fun ys hy => by rw [I.tuple_inj hy hq]; exact hx⟩, ⟨⟨x', ?_⟩, hit'.1.at fun o q => (sb.2 it (Ne.symm hne)).trans q, hne, hai, hae⟩, fun b hb => ?_⟩
    · have e1 : ((i + 1 : Nat) : Int) = (i : Int) + 1 := by omega
      rw [e1]; exact he'
    · have hb' : b < s.heap.objs.size := by
        have e' : b = e ∨ b = it := by simpa using hb
        rcases e' with z | z
        · rw [z]; exact hel
        · rw [z]; exact hil
      rw [upd_ne (Nat.ne_of_lt hb')]
      exact (hf b hb).1
  done := by
    intro X hP hw hK hc i pins s σ H E I hf st hg
    subst hP hw hK
    obtain ⟨⟨old, he⟩, hit, hne, hai, hae⟩ := st
    obtain ⟨xs, hq, hx⟩ := hg
    obtain ⟨its, rv, p, hz⟩ := I.tuple hq
    obtain ⟨f0, f1, f2, f3, f4, f5⟩ := hf it (by simp)
    have hl := rv.length
    have hh : X.A.handled = none := I.ok.hd hc
    have D2 : Draws X.prog X.w X.A.in1 it [it, a] i (fun i v => its.toArray[i]? = some v) (fun j h => j = i ∧ h.IsTupleIter it a j ∧ h.IsTuple a its.toArray) := {
      live := fun _ _ st => let ⟨o, ho, _⟩ := st.2.1; ⟨o, ho⟩
      frame := fun _ _ _ st hk => ⟨st.1, st.2.1.at fun o e => hk it (by simp) o e, st.2.2.at fun o e => hk a (by simp) o e⟩
      item := fun j s Q E hj st hQ => absurd hj (by have := st.1; omega)
      done := fun s Q E st hE => wpAny_nextOf_tuple_end hh st.2.1 st.2.2 (by simp; omega) hE }
    exact wpAny_pyNext_enum_endD D2 he ⟨rfl, hit, p⟩ fun h' eb => ⟨rfl, I.turned (t' := s.toks) (fun b o hb q => eb b o hb q) f0 f1 f3 f4 f5⟩
  self := fun A i s Q E st h => let ⟨⟨_, he⟩, _⟩ := st; wpAny_pyIter_enum he h
/-- a list or a tuple -/
def Iteu (K : PySem.W.Frag) (a : Addr) : Bool → It
  | true => Ite K a
  | false => IteT K a
def iEnumU (K : PySem.W.Frag) (ta : TA) : TI := fun σ H R => ta σ H fun vs H1 => ∃ a xs k, vs = [.ref a] ∧ SqB K k H1 a xs ∧ R (Iteu K a k) H1
theorem pi_enumU {X : Cx} {e : Expr} {ta : TA} {p pos tpos : Pos} {elts : List Expr} {kk : Nat} (hg : Gl X "enumerate") (hm : X.mg "enumerate" = none) (ha : PA X [e] ta) (hs : starEach [e] X.env = [(false, eval e X.env)] := by rfl) :
    PI X (.Tuple elts kk tpos) (.Call (.Name "enumerate" p) [e] [] pos) (iEnumU X.K ta) := by
  refine ⟨fun pins s σ H R I h => ?_⟩
  refine Call_ (ld_blt I hg hm boot_enumerate (PyProof.Rows.callWith_type1 (thn (ha.run pos pins s σ H _ I h) fun us s1 ⟨vs, H1, I1, r1, q1⟩ => ?_) hs rfl))
  obtain ⟨a, xs, k, ex, hq, q⟩ := q1
  subst ex
  cases r1 with
  | cons r rr =>
    cases rr
    cases r
    have fin : ∀ b, (b = s1.heap.objs.size + 1 ∨ b = s1.heap.objs.size) → s1.heap.objs.size ≤ b := fun b e' => by
      rcases e' with z | z
      · rw [z]; exact Nat.le_add_right _ _
      · rw [z]; exact Nat.le_refl _
    cases k with
    | true =>
      obtain ⟨its, rv, p', hz⟩ := I1.list hq
      refine call_enumerate_list p'.isList fun h' he hit hsz hk => wpAny_pyIter_enum he ?_
      have I2 : Inv X pins σ H1 { s1 with heap := h' } := I1.kept (t' := s1.toks) hk
      refine ⟨s1.heap.objs.size + 1, [s1.heap.objs.size + 1, s1.heap.objs.size], _, _, H1, rfl, I2, turn_enum a (s1.heap.objs.size + 1) s1.heap.objs.size, ⟨⟨.none, he⟩, hit, Nat.succ_ne_self _⟩, fun b hb => ?_, q⟩
      have hle := fin b (by simpa using hb)
      exact I1.fpOk hle (I1.hok.fresh hle)
    | false =>
      obtain ⟨its, rv, p', hz⟩ := I1.tuple hq
      have hlt : a < s1.heap.objs.size := by obtain ⟨_, e1, _⟩ := p'; exact Heap.lt_size e1
      refine call_enumT p' fun h' he hit hsz hk => wpAny_pyIter_enum he ?_
      have I2 : Inv X pins σ H1 { s1 with heap := h' } := I1.kept (t' := s1.toks) hk
      refine ⟨s1.heap.objs.size + 1, [s1.heap.objs.size + 1, s1.heap.objs.size], _, _, H1, rfl, I2, turn_enumT a (s1.heap.objs.size + 1) s1.heap.objs.size, ⟨⟨.none, he⟩, hit, Nat.succ_ne_self _, Nat.ne_of_lt hlt, Nat.ne_of_lt (Nat.lt_succ_of_lt hlt)⟩, fun b hb => ?_, q⟩
      have hle := fin b (by simpa using hb)
      exact I1.fpOk hle (I1.hok.fresh hle)
section
variable {K : PySem.W.Frag} {a : Addr} {k : Bool} {g : TG} {tb1 : TS} {N b c : L2.St → Hp → Prop} {r : VK} {σ : L2.St} {H : Hp} {ta : TA} {R : It → Hp → Prop} {xs : List V}
def zEnum (K : PySem.W.Frag) (vs : List V) (H : Hp) (R : It → Hp → Prop) : Prop := ∃ a xs k, vs = [.ref a] ∧ SqB K k H a xs ∧ R (Iteu K a k) H
theorem s_enum (h : ta σ H fun vs H1 => zEnum K vs H1 R) : iEnumU K ta σ H R := h
theorem s_zenum (h1 : SqB K k H a xs) (h : R (Iteu K a k) H) : zEnum K [.ref a] H R := ⟨a, xs, k, rfl, h1, h⟩
theorem loop_enum {tb1 : TS} (xs : List V) (Pv : Nat → L2.St → Hp → Prop) (h0 : Pv 0 σ H) (hl : ∀ i σ' H', i ≤ xs.length → Pv i σ' H' → SqB K k H' a xs)
    (hs : ∀ i x σ' H' T, xs[i]? = some x → Pv i σ' H' → H' T = none → g (.ref T) σ' (upd H' T (.tup [.int (i : Nat), x])) fun σ2 H2 => tb1 ⟨Pv (i + 1), r, N, Pv (i + 1)⟩ σ2 H2)
    (hd : ∀ σ' H', Pv xs.length σ' H' → N σ' H') : zLoop (Iteu K a k) g tb1 ⟨N, r, b, c⟩ σ H := by
  refine ⟨fun i m σ' H' => m = xs.length - i ∧ i ≤ xs.length ∧ Pv i σ' H', ⟨_, rfl, Nat.zero_le _, h0⟩, fun i m σ' H' ⟨hm, hi, hp⟩ => ?_⟩
  by_cases e : i < xs.length
  · have hx : xs[i]? = some xs[i] := List.getElem?_eq_getElem e
    have hq := hl i σ' H' hi hp
    refine .inr ⟨?_, Pv (i + 1), fun σ2 H2 q => ⟨xs.length - (i + 1), by omega, rfl, by omega, q⟩, fun x H2 hy => ?_⟩
    · cases k with
      | true => exact ⟨xs, _, hq, hx⟩
      | false => exact ⟨xs, _, hq, hx⟩
    · cases k with
      | true =>
        obtain ⟨T, y, rfl, hT, rfl, hz⟩ := hy
        have := hz xs hq
        exact hs i y σ' H' T this hp hT
      | false =>
        obtain ⟨T, y, rfl, hT, rfl, hz⟩ := hy
        have := hz xs hq
        exact hs i y σ' H' T this hp hT
  · have ei : i = xs.length := by omega
    subst ei
    refine .inl ⟨?_, hd σ' H' hp⟩
    have hq := hl _ σ' H' hi hp
    cases k with
    | true => exact ⟨xs, hq, Nat.le_refl _⟩
    | false => exact ⟨xs, hq, Nat.le_refl _⟩
end
end Z
set_option Elab.async false
set_option linter.all false
set_option maxRecDepth 100000
set_option maxHeartbeats 4000000
/-! ### texts: signs, replace, comprehensions behind a token -/
namespace Z
open PySem PySem.Spec PyProof.Rows
open L2 hiding Same Same.refl Same.trans Same.free Same.seq Same.made
variable [TQ]
section
variable {X : Cx}
def rInSg : R2 := fun x y H Q => ∃ (c : Nat) (z : Str), x = .str ⟨#[c]⟩ ∧ y = .str z ∧ Q (.bl (decide (c ∈ z.cps.toList))) H
def rNotInSg : R2 := fun x y H Q => ∃ (c : Nat) (z : Str), x = .str ⟨#[c]⟩ ∧ y = .str z ∧ Q (.bl (!decide (c ∈ z.cps.toList))) H
theorem op_in_sign' : OpR X (compareOp .In) rInSg := op_in_sign
theorem op_notIn_sign' : OpR X (compareOp .NotIn) rNotInSg := op_notIn_sign
def rIntS : List V → Hp → VK → Prop := fun xs H Q => ∃ a n, xs = [.str a] ∧ PySem.intText? a = some n ∧ a.length ≤ 640 ∧ Q (.int n) H
theorem call_intS' : CallR X (.type "int") rIntS := call_int_str
variable {σ : L2.St} {H : Hp} {Q : VK} {c : Nat} {z a : Str} {n : Int}
theorem s_inSg (h : Q (.bl (decide (c ∈ z.cps.toList))) H) : rInSg (.str ⟨#[c]⟩) (.str z) H Q := ⟨c, z, rfl, rfl, h⟩
theorem s_notInSg (h : Q (.bl (!decide (c ∈ z.cps.toList))) H) : rNotInSg (.str ⟨#[c]⟩) (.str z) H Q := ⟨c, z, rfl, rfl, h⟩
theorem s_intS (h1 : PySem.intText? a = some n) (h2 : a.length ≤ 640) (h : Q (.int n) H) : rIntS [.str a] H Q := ⟨a, n, rfl, h1, h2, h⟩
end
def zItS (v : V) (H : Hp) (R : It → Hp → Prop) : Prop := ∃ x, v = .str x ∧ R (Its x) H
/-- a comprehension, a token being out -/
theorem pet_lc {X : Cx} {elt tg iter : Expr} {ifs : List Expr} {scope : Scope} {own : List (Str × Nat)} {pos : Pos} {wi : TI} {g : TG} {tt : TT} {te : TE} (hc : X.calm = true) (hN : X.N.Nodup) (hi : PIT X tg iter wi) (ok : BlkOk X.N X.env.scope scope own)
    (pg : ∀ (s0 : Shared) (H0 : Hp) (L : Addr) (cs : List (Str × Addr)) (it : List Addr), PG (X.blk s0 H0 scope (compEnvC scope cs L X.env) it) tg g) (pt : ∀ (s0 : Shared) (H0 : Hp) (L : Addr) (cs : List (Str × Addr)) (it : List Addr), PTs (X.blk s0 H0 scope (compEnvC scope cs L X.env) it) ifs tt)
    (pe : ∀ (s0 : Shared) (H0 : Hp) (L : Addr) (cs : List (Str × Addr)) (it : List Addr), PE (X.blk s0 H0 scope (compEnvC scope cs L X.env) it) elt te) (hs : ∀ x, foldedSetIterable iter X.env x = pure x := by intro _; rfl) :
    PET X (.ListComp elt [⟨tg, iter, ifs, 0⟩] scope pos) (tLc wi g tt te (own.map (·.2))) := by
  intro pins s σ H Q h0 I h
  rw [eval_ListComp]
  have caps : ∀ y ∈ scope.names, y.2 = .free → ∃ d, X.env.cells.lookup y.1 = some d := by
    intro y hy e
    exact (ok.free y hy e).elim (fun k => I.ok.has _ (.inl k)) fun k => I.ok.has _ (.inr k)
  apply wpAny_comprehension_free (use := none) rfl hs (closure_ok caps) ok.kind (fun y hy e => by rw [ok.uniq y hy, e])
  refine thn (hi pins s σ H _ h0 I h) fun xv sA hA => thn hA fun iv sB hB => ?_
  obtain ⟨it, fp, tn, J, HB, rfl, IB, TU, stB, fB, q⟩ := hB
  refine wpAny_newObj_type (newEnv_comp ?_) (by show 0 ≤ sizeLine; decide)
  obtain ⟨D, hD⟩ : ∃ D, sB.heap.objs.size = D := ⟨_, rfl⟩
  rw [hD]
  have freeD : HB D = none := IB.hok.fresh (Nat.le_of_eq hD)
  obtain ⟨W, ⟨m0, w0⟩, turn⟩ := q D freeD
  obtain ⟨sC, eC⟩ : ∃ sC : Shared, ({ sB with heap := sB.heap.push { cls := .type "list", data := .seq ([] : List Value).toArray } } : Shared) = sC := ⟨_, rfl⟩
  rw [eC]
  have hpC : sC.heap = sB.heap.push { cls := .type "list", data := .seq ([] : List Value).toArray } := by rw [← eC]
  have IC : Inv X pins σ (upd HB D (.lst [])) sC := by
    subst eC
    exact IB.laid (t' := sB.toks) (fun b o e => Heap.get?_push_of_some _ e) (Nat.le_of_eq hD) ⟨Nat.zero_le _, [], 0, .nil, by subst hD; exact Heap.get?_push_size _ rfl⟩
  have small : ∀ b ∈ fp, b < sB.heap.objs.size := fun b hb => (TU.obj _ _ stB b hb).elim fun o z => Heap.lt_size z.1
  have fC : ∀ b ∈ fp, FpOk X pins (upd HB D (.lst [])) b ∧ b < sC.heap.objs.size := by
    intro b hb
    refine ⟨⟨(upd_ne (by subst hD; exact Nat.ne_of_lt (small b hb))).trans (fB b hb).1, (fB b hb).2⟩, ?_⟩
    rw [hpC, Heap.size_push]
    exact Nat.lt_succ_of_lt (small b hb)
  have stC : tn 0 sC.heap := TU.keep _ _ _ stB fun b _ o e => by
    rw [hpC]
    exact Heap.get?_push_of_some _ e
  have IE := block_start IC ok hN fC
  have g1 := pg sC (upd HB D (.lst [])) sC.heap.objs.size (cellsFrom (sC.heap.objs.size + 1) scope.names (cloFrom X.env.cells scope.names [])) fp
  have t1 := pt sC (upd HB D (.lst [])) sC.heap.objs.size (cellsFrom (sC.heap.objs.size + 1) scope.names (cloFrom X.env.cells scope.names [])) fp
  have e1 := pe sC (upd HB D (.lst [])) sC.heap.objs.size (cellsFrom (sC.heap.objs.size + 1) scope.names (cloFrom X.env.cells scope.names [])) fp
  have nofp : ∀ b ∈ fp, upd HB D (.lst []) b = none := fun b hb => (fC b hb).1.1
  show codeAny _ _ (.compStart _ 0 (.ref it) (.ref D) (compEnvC scope (cellsFrom (sC.heap.objs.size + 1) scope.names (cloFrom X.env.cells scope.names [])) sC.heap.objs.size X.env)) _ { sC with heap := pushCells (sC.heap.push { cls := .type "dict", data := .dict #[] }) scope.names }
  obtain ⟨ce, hce⟩ : ∃ ce, compEnvC scope (cellsFrom (sC.heap.objs.size + 1) scope.names (cloFrom X.env.cells scope.names [])) sC.heap.objs.size X.env = ce := ⟨_, rfl⟩
  have cL : ce.locals = sC.heap.objs.size := by rw [← hce]; rfl
  rw [hce] at IE g1 t1 e1 ⊢
  obtain ⟨HC, eH⟩ : ∃ HC, upd HB D (.lst []) = HC := ⟨_, rfl⟩
  rw [eH] at IC IE g1 t1 e1 w0 nofp fC
  obtain ⟨sD, eD⟩ : ∃ sD : Shared, ({ sC with heap := pushCells (sC.heap.push { cls := .type "dict", data := .dict #[] }) scope.names } : Shared) = sD := ⟨_, rfl⟩
  rw [eD] at IE ⊢
  have stD : tn 0 sD.heap := TU.keep _ _ _ stC fun b _ o e => by
    rw [← eD]
    exact pushCells_keeps _ _ _ _ (Heap.get?_push_of_some _ e)
  have fine : ∀ {σ' : L2.St} {H' : Hp} {s' : Shared}, Inv (X.blk sC HC scope ce fp) [] σ' H' s' → (∀ b ∈ fp, H' b = none) → ∀ b ∈ fp, FpOk (X.blk sC HC scope ce fp) [] H' b := by
    intro σ' H' s' J1 hn b hb
    refine ⟨hn b hb, (J1.ok.exf b hb).1, J1.ok.exfs b hb, .inl hb, fun x c e => (J1.ok.exf b hb).2 x c e, fun p hp => ?_⟩
    cases (show p ∈ ([] : List (Addr × Obj)) ++ [] from hp)
  have body : codeAny (model X.prog X.w) X.A (.compLoop (.ListComp elt [⟨tg, iter, ifs, 0⟩] scope pos) 0 (.ref it) (.ref D) ce) (compPost (model X.prog X.w) X.A X.xe none (fun v s1 => ∃ w H', Inv X pins σ H' s1 ∧ RelV w v ∧ Q w H') (.ref D) sC.heap.objs.size) sD := by
    apply compLoop_any (fun n s' => ∃ i H', Inv (X.blk sC HC scope ce fp) [] (wipe σ (own.map (·.2))) H' s' ∧ tn i s'.heap ∧ (∀ b ∈ fp, H' b = none) ∧ W i n H') ?_ m0 ⟨0, HC, IE, stD, nofp, w0⟩
    intro n s5 hyp
    obtain ⟨i, H5, I5, st5, n5, w5⟩ := hyp
    cases turn i n H5 w5 with
    | inl z =>
      obtain ⟨stop, qq⟩ := z
      refine thnF (TU.done (X.blk sC HC scope ce fp) rfl rfl rfl hc i [] s5 _ H5 (fun _ _ => False) I5 (fine I5 n5) st5 stop) fun r s6 z => ?_
      obtain ⟨rfl, I6⟩ := z
      have I7 : Inv X pins σ H5 s6 := IC.call' (ch := fp) I6.os I6.base I6.hok I6.bare fun b hb => by
        obtain ⟨⟨_, b1, b2, b3, b4, b5⟩, _⟩ := fC b hb
        exact ⟨b3, b1, b4, b5⟩
      have nC : H5 sC.heap.objs.size = none := by
        rw [← cL]
        exact I6.free
      obtain ⟨mm, hn, _⟩ := I6.loc
      have hn : s6.heap.Ns ce.locals mm := hn
      rw [cL] at hn
      refine ⟨mm, hn, fun h'' sb => ?_⟩
      obtain ⟨k0, k1, k2, k3, k4, k5⟩ := IC.fpOk (Nat.le_refl _) nC
      exact ⟨.ref D, H5, I7.turned (t' := s6.toks) (fun b o hb e => (sb.2 b hb).trans e) k0 k1 k3 k4 k5, rfl, qq⟩
    | inr z =>
      obtain ⟨more, Nx, hNx, step⟩ := z
      refine thnF (TU.item (X.blk sC HC scope ce fp) rfl rfl rfl hc i [] s5 _ H5 (fun _ _ => False) I5 (fine I5 n5) st5 more) fun r s6 z => ?_
      obtain ⟨u, rfl, h6⟩ := z
      refine thnF h6 fun _ s7 z => ?_
      obtain ⟨x, H7, I7, r7, y7, st7, n7⟩ := z
      refine thnF (g1.run _ s7 _ H7 x u _ (I7.pinned (fine I7 n7) (TU.obj _ _ st7)) r7 (step x H7 y7)) fun _ s8 z => ?_
      obtain ⟨σ8, H8, I8, hw8, q8⟩ := z
      refine thnF (t1.run _ s8 σ8 H8 _ I8 q8) fun b s9 z => ?_
      obtain ⟨H9, I9, q9⟩ := z
      have fin : ∀ {s' : Shared} {H' : Hp}, Inv (X.blk sC HC scope ce fp) ([] ++ pinsAt fp s7.heap) σ8 H' s' → Nx H' → ∃ m, m < n ∧ ∃ j H', Inv (X.blk sC HC scope ce fp) [] (wipe σ (own.map (·.2))) H' s' ∧ tn j s'.heap ∧ (∀ b ∈ fp, H' b = none) ∧ W j m H' := by
        intro s' H' J1 nx
        obtain ⟨m', hm, w'⟩ := hNx H' nx
        have here : ∀ b ∈ fp, ∀ o, s7.heap.get? b = some o → s'.heap.get? b = some o ∧ H' b = none := by
          intro b hb o e
          have z := J1.pin (b, o) (List.mem_append_right _ (List.mem_append_right _ (mem_pinsAt hb e)))
          exact ⟨z.1, z.2.1⟩
        have len : (wipe σ (own.map (·.2))).length = σ8.length := by rw [← hw8, wipe_length]
        refine ⟨m', hm, i + 1, H', (J1.unpinned (pins := [])).weak len (fun j v e => ?_), TU.keep _ _ _ st7 fun b hb o e => (here b hb o e).1, fun b hb => ?_, w'⟩
        · rw [← hw8] at e
          exact (wipe_some e).1
        · exact (TU.obj _ _ st7 b hb).elim fun o z => (here b hb o z.1).2
      cases b with
      | false => exact fin I9 (by simpa using q9)
      | true =>
        simp only [if_true] at q9 ⊢
        refine thnF (e1.run _ s9 σ8 H9 _ I9 q9) fun z sX y => ?_
        obtain ⟨yv, HX, IX, rX, acc, hDX, hzX, nx⟩ := y
        exact app_ok (X := X.blk sC HC scope ce fp) IX hDX hzX rX fun s11 I11 => fin I11 nx
  exact codeAny_compStart_list body (TU.self X.A 0 _ _ _ stD body)

/-- a method of what wants a token -/
theorem pet_bm {X : Cx} {o e : Expr} {es : List Expr} {name : Str} {T id : String} {r : V → List V → Hp → VK → Prop} {to : TE} {t : TA} {apos cpos : Pos} (pa : PlainAttrs T) (slot : Slot T name id) (hty : typeOf (.builtin id) = pure (.type "method_descriptor")) (hm : MtR X id r) (ho : PET X o to) (ha : PA X (e :: es) t)
    (h1 : attributeBase o name X.env (eval o X.env) = eval o X.env := by rfl)
    (h2 : ((backTo cpos (starEach (e :: es) X.env)).all (fun x => !x.1) && (backToKw cpos (keywordEach [] X.env)).all (fun x => x.1.isSome) && decide ((e :: es).length + ([] : List Keyword).length + (if ([] : List Keyword).isEmpty then 0 else 1) < 30)) = true := by rfl)
    (h3 : (apos.endLine == cpos.line) = true := by rfl) (h4 : starEach (e :: es) X.env = (false, eval e X.env) :: starEach es X.env := by rfl) (h5 : (backTo cpos (starEach es X.env)).any (·.1) = false := by rfl) :
    PET X (.Call (.Attribute o name apos) (e :: es) [] cpos) (tBM X.K T r to t) := by
  intro pins s σ H Q h0 I h
  apply wpAny_Call_method_late h1 h2 h3 rfl
  refine thn (ho pins s σ H _ h0 I h) fun v sA z => ?_
  obtain ⟨x, HA, IA, rA, ty, q⟩ := z
  have tv := tyV_is IA rA ty
  refine ⟨T, id, pa, slot, hty, tv.1, tv.2, ?_⟩
  have args := ha.run cpos pins sA σ HA _ IA q
  rw [h4] at args ⊢
  apply Calls.callWith_builtin (by show (false || (backTo cpos (starEach es X.env)).any (·.1)) = false; rw [h5]; rfl)
  apply Calls.evalArgs_plain
  exact thn args fun us sB y => by
    obtain ⟨vs, HB, IB, rB, qB⟩ := y
    exact hm pins sB σ HB x vs v us Q IB rA rB qB
/-- a def whose body wants a token -/
theorem okT {P : Program} {w : World} {K : PySem.W.Frag} {mg : Str → Option Value} {base : Heap} {x qual : Str} {st : Stmt} {f : Addr} {fd : FuncData} {N ps : List Str} {k : Nat} {sp : Sp} (F : L2.Fun K x qual st f fd) (S : FnScope N ps (defScope st)) (hnc : ∀ y ∈ (defScope st).names, y.2 ≠ .cell) (hps : 1 ≤ ps.length) (len : ∀ vs H Q E, sp vs H Q E → vs.length = ps.length)
    (hbody : ∀ (cdv : Value) (A : Around) (outer : List Env) (s : Shared) (H : Hp) (vs : List V) (Q : VK) (E : XK), Room k (A.deeper (envOfC qual (defScope st) s.heap.objs.size f cdv)) → sp vs H Q E →
      ∃ t, PSsT (cxOf (L2.CX P w) P w K mg base N qual (defScope st) f cdv A outer s H E) (defBody st) t ∧ t { nx := fun _ H' => Q .non H', rt := Q } (L2.start N vs) H) : FnOk P w K mg base (L2.CX P w) (k + 1) f fd ps sp := by
  obtain ⟨oc, od, kV, doc, pm, an, cdv, ct, osl, rfl, lk, hcd⟩ := F.ex
  exact fn_ofT lk hcd S hnc hps len (hbody cdv)
section
variable {K : PySem.W.Frag} {σ : L2.St} {H : Hp} {Q : VK} {N b c : L2.St → Hp → Prop} {r : VK} {te : TE} {g : TG} {z y w : Str} {to : TE}
theorem s_itstr {R : It → Hp → Prop} (h : te σ H fun x H1 => zItS x H1 R) : iStr te σ H R := h
theorem s_zitstr {R : It → Hp → Prop} (h : R (Its z) H) : zItS (.str z) H R := ⟨z, rfl, h⟩
theorem loop_str {tb1 : TS} (Pv : Nat → L2.St → Hp → Prop) (h0 : Pv 0 σ H) (hs : ∀ i c σ' H', z.cps[i]? = some c → Pv i σ' H' → g (.str ⟨#[c]⟩) σ' H' fun σ2 H2 => tb1 ⟨Pv (i + 1), r, N, Pv (i + 1)⟩ σ2 H2)
    (hd : ∀ σ' H', Pv z.cps.size σ' H' → N σ' H') : zLoop (Its z) g tb1 ⟨N, r, b, c⟩ σ H := by
  refine ⟨fun i m σ H => m = z.cps.size - i ∧ i ≤ z.cps.size ∧ Pv i σ H, ⟨_, rfl, Nat.zero_le _, h0⟩, fun i m σ' H' h => ?_⟩
  obtain ⟨rfl, hi, p⟩ := h
  by_cases e : i < z.cps.size
  · refine .inr ⟨e, Pv (i + 1), fun σ2 H2 p2 => ⟨z.cps.size - (i + 1), by omega, rfl, e, p2⟩, fun x H2 y => ?_⟩
    obtain ⟨rfl, cc, hc, rfl⟩ := y
    exact hs i cc σ' _ hc p
  · obtain rfl : i = z.cps.size := by omega
    exact .inl ⟨Nat.le_refl _, hd _ _ p⟩
def zRepl (y z : Str) (v : V) (H : Hp) (Q : VK) : Prop := ∃ x, v = .str x ∧ x.length + (x.length + 1) * z.length ≤ 16777216 ∧ Q (.str (Txt.replace x y z)) H
theorem s_repl (h : to σ H fun v H1 => zRepl y z v H1 Q) : CwR.tReplC to y z σ H Q := h
theorem s_zrepl (h1 : w.length + (w.length + 1) * z.length ≤ 16777216) (h : Q (.str (Txt.replace w y z)) H) : zRepl y z (.str w) H Q := ⟨w, rfl, h1, h⟩
end
/-- a text times a number -/
def repS (x : Str) (n : Nat) : Str := ⟨(List.replicate n x.cps).foldl (· ++ ·) #[]⟩
theorem repS_list (x : Str) (n : Nat) : (repS x n).cps.toList = (List.replicate n x.cps.toList).flatten := by
  have : ∀ (n : Nat) (a : Array Nat), ((List.replicate n x.cps).foldl (· ++ ·) a).toList = a.toList ++ (List.replicate n x.cps.toList).flatten := fun n => by
    induction n with
    | zero => intro a; simp
    | succ n ih => intro a; rw [List.replicate_succ, List.foldl_cons, ih, Array.toList_append, List.replicate_succ, List.flatten_cons, List.append_assoc]
  have h := this n #[]
  rw [show (#[] : Array Nat).toList = [] from rfl, List.nil_append] at h
  exact h
theorem repS_length (x : Str) (n : Nat) : (repS x n).length = n * x.length := by
  have := congrArg List.length (repS_list x n)
  rw [List.length_flatten, List.map_replicate, List.sum_replicate_nat] at this
  exact this
def rRepS : R2 := fun x y H Q => ∃ (s : Str) (n : Nat), x = .str s ∧ y = .int n ∧ 2 ≤ n ∧ 1 ≤ s.length ∧ s.length * n ≤ 1000000 ∧ Q (.str (repS s n)) H
theorem s_repS {s : Str} {n : Int} {H : Hp} {Q : VK} (m : Nat) (e : n = (m : Int)) (h1 : 2 ≤ m) (h2 : 1 ≤ s.length) (h3 : s.length * m ≤ 1000000) (h : Q (.str (repS s m)) H) : rRepS (.str s) (.int n) H Q := ⟨s, m, rfl, by rw [e], h1, h2, h3, h⟩
theorem op_repS {X : Cx} : OpR X (binaryOp .Mult) rRepS := by
  intro pins s σ H x y v u Q I rx ry h
  obtain ⟨z, n, rfl, rfl, h1, h2, h3, q⟩ := h
  obtain ⟨t, rfl⟩ := rx
  obtain ⟨t', rfl⟩ := ry
  have hn : n ≤ 1000000 := by
    have : n * 1 ≤ n * z.length := Nat.mul_le_mul_left _ h2
    rw [Nat.mul_comm] at h3; omega
  have hz : z.length ≤ 1000000 := by
    have : z.length * 1 ≤ z.length * n := Nat.mul_le_mul_left _ (by omega)
    omega
  have big : 1000000 ≤ sizeLine := by decide
  refine PySem.P.mul_str ?_ ?_ ?_ ?_
  · rw [decide_eq_false (by omega), decide_eq_false (by omega)]; rfl
  · intro _ _
    have hd : (2 ^ 63 - 1 : Int) / 1000000 ≤ (2 ^ 63 - 1) / (n : Int) := by
      refine Int.le_ediv_of_mul_le (by omega) ?_
      have : (2 ^ 63 - 1 : Int) / 1000000 * (n : Int) ≤ (2 ^ 63 - 1 : Int) / 1000000 * 1000000 := Int.mul_le_mul_of_nonneg_left (by omega) (by decide)
      exact Int.le_trans this (by decide)
    have : (1000000 : Int) ≤ (2 ^ 63 - 1 : Int) / 1000000 := by decide
    omega
  · intro _ _
    show decide (z.length * ((n : Int)).toNat > sizeLine) = false
    rw [Int.toNat_natCast]
    exact decide_eq_false (by omega)
  · rw [if_neg (by omega)]
    split
    · rename_i e
      exfalso
      rcases (Bool.or_eq_true _ _).mp e with e | e
      · have := eq_of_beq e; omega
      · have := eq_of_beq e; omega
    · rw [Int.toNat_natCast]
      refine ⟨?_, .str (repS z n), H, I.tok _, ⟨_, rfl⟩, q⟩
      have := repS_length z n
      show (repS z n).length ≤ sizeLine
      rw [this, Nat.mul_comm]; omega
end Z
set_option Elab.async false
set_option linter.all false
set_option maxRecDepth 100000
set_option maxHeartbeats 4000000
namespace Z
open PySem Builtin Builtin.Str StrLaws
/-! ### texts as lists of signs: split and replace by one sign -/
def ofL (l : List Nat) : Str := ⟨l.toArray⟩
theorem ofL_ls (s : Str) : ofL s.cps.toList = s := rfl
theorem ls_ofL (l : List Nat) : (ofL l).cps.toList = l := rfl
theorem len_ls (s : Str) : s.length = s.cps.toList.length := by show s.cps.size = _; rw [Array.length_toList]
def splitC (c : Nat) : List Nat → List (List Nat)
  | [] => [[]]
  | x :: xs => if x = c then [] :: splitC c xs else match splitC c xs with
    | [] => [[x]]
    | p :: ps => (x :: p) :: ps
theorem splitC_ne (c : Nat) : ∀ l, ∃ p ps, splitC c l = p :: ps
  | [] => ⟨_, _, rfl⟩
  | x :: xs => by
    unfold splitC
    by_cases h : x = c
    · rw [if_pos h]; exact ⟨_, _, rfl⟩
    · rw [if_neg h]
      obtain ⟨p, ps, e⟩ := splitC_ne c xs
      rw [e]; exact ⟨_, _, rfl⟩
theorem splitC_eq {c : Nat} {xs : List Nat} : splitC c (c :: xs) = [] :: splitC c xs := by
  show (if c = c then _ else _) = _
  rw [if_pos rfl]
theorem splitC_ne' {c x : Nat} {xs p : List Nat} {ps : List (List Nat)} (h : x ≠ c) (e : splitC c xs = p :: ps) : splitC c (x :: xs) = (x :: p) :: ps := by
  show (if x = c then _ else _) = _
  rw [if_neg h, e]
theorem occ_go (x : Str) (c limit : Nat) : ∀ (m k : Nat) (st : Array Nat × Nat), st.fst.size ≤ k → st.snd ≤ k → k + m ≤ limit →
    (forIn (List.range' k m) st (occBody x ⟨#[c]⟩ x.length limit)).run.fst.toList = st.fst.toList ++ (List.range' k m).filter (fun i => decide (x.cps.toList[i]? = some c))
  | 0, k, st, h1, h2, h3 => by simp
  | m + 1, k, st, h1, h2, h3 => by
    rw [List.range'_succ, List.forIn_cons, List.filter_cons]
    have hs := subAt_one x c k
    unfold occBody
    by_cases e : x.cps.toList[k]? = some c
    · have := hs.mpr e
      rw [if_pos ⟨⟨⟨by omega, h2⟩, this.1⟩, this.2⟩, decide_eq_true e, if_pos rfl]
      show (forIn (List.range' (k + 1) m) (st.fst.push k, k + 1) (occBody x ⟨#[c]⟩ x.length limit)).run.fst.toList = _
      rw [occ_go x c limit m (k + 1) _ (by simp; omega) (Nat.le_refl _) (by omega), Array.toList_push, List.append_assoc]
      rfl
    · rw [if_neg (fun z => e (hs.mp ⟨z.1.2, z.2⟩)), decide_eq_false e, if_neg (by decide)]
      exact occ_go x c limit m (k + 1) (st.fst, st.snd) (by show st.fst.size ≤ k + 1; omega) (by show st.snd ≤ k + 1; omega) (by omega)
theorem occ_all (x : Str) (c : Nat) : occurrences x ⟨#[c]⟩ 0 x.length (x.length + 1) = (List.range' 0 (x.length + 1)).filter (fun i => decide (x.cps.toList[i]? = some c)) := by
  rw [occ_eq, Nat.sub_zero, occ_go x c (x.length + 1) (x.length + 1) 0 _ (by simp) (Nat.le_refl _) (by omega)]
  simp
theorem parts_go (x : Str) (c : Nat) : ∀ (m k a : Nat), k + m = x.length + 1 → a ≤ k → ∀ {p : List Nat} {ps : List (List Nat)}, splitC c (x.cps.toList.drop k) = p :: ps →
    (partsFrom x 1 a ((List.range' k m).filter (fun i => decide (x.cps.toList[i]? = some c)))).map (fun s => s.cps.toList) = ((x.cps.toList.drop a).take (k - a) ++ p) :: ps
  | 0, k, a, h, ha, p, ps, e => by
    have hn : x.cps.toList.length = x.length := (len_ls x).symm
    rw [List.drop_eq_nil_of_le (by omega)] at e
    cases e
    show [(strSub x a x.length).cps.toList] = _
    rw [strSub_toList, List.take_of_length_le (by rw [List.length_drop]; omega), List.take_of_length_le (by rw [List.length_drop]; omega), List.append_nil]
  | m + 1, k, a, h, ha, p, ps, e => by
    have hn : x.cps.toList.length = x.length := (len_ls x).symm
    rw [List.range'_succ, List.filter_cons]
    by_cases hk : k < x.length
    · have hk' : k < x.cps.toList.length := by omega
      have dr : x.cps.toList.drop k = x.cps.toList[k] :: x.cps.toList.drop (k + 1) := List.drop_eq_getElem_cons hk'
      obtain ⟨p2, ps2, e2⟩ := splitC_ne c (x.cps.toList.drop (k + 1))
      by_cases q : x.cps.toList[k]? = some c
      · rw [List.getElem?_eq_getElem hk'] at q
        rw [dr, Option.some.inj q, splitC_eq] at e
        cases e
        rw [List.getElem?_eq_getElem hk', decide_eq_true q, if_pos rfl]
        show (strSub x a k).cps.toList :: (partsFrom x 1 (k + 1) _).map _ = _
        rw [parts_go x c m (k + 1) (k + 1) (by omega) (Nat.le_refl _) e2, strSub_toList, List.append_nil, Nat.sub_self, List.take_zero, List.nil_append, e2]
      · rw [decide_eq_false q, if_neg (by decide), parts_go x c m (k + 1) a (by omega) (by omega) e2]
        rw [List.getElem?_eq_getElem hk'] at q
        rw [dr, splitC_ne' (fun z => q (by rw [z])) e2] at e
        cases e
        rw [show k + 1 - a = (k - a) + 1 by omega, List.take_add_one, List.getElem?_drop, show a + (k - a) = k by omega, List.getElem?_eq_getElem hk', List.append_assoc]
        rfl
    · have hk2 : k = x.length := by omega
      cases show m = 0 by omega
      have q : x.cps.toList[k]? = none := List.getElem?_eq_none (by omega)
      rw [q, decide_eq_false (by simp), if_neg (by decide)]
      rw [List.drop_eq_nil_of_le (by omega)] at e
      cases e
      show [(strSub x a x.length).cps.toList] = _
      rw [strSub_toList, List.append_nil, hk2]
theorem kind_ge (x : Str) : 1 ≤ Builtin.Str.strKind x := by
  unfold Str.strKind
  split
  · exact Nat.le_refl _
  · split <;> decide
theorem kind_one {c : Nat} (h : c < 256) : Builtin.Str.strKind ⟨#[c]⟩ = 1 := by
  unfold Str.strKind
  rw [if_pos (by simpa using h)]
theorem parts_eq (x : Str) (c : Nat) : partsBetween x (occurrences x ⟨#[c]⟩ 0 x.length (x.length + 1)) 1 = (splitC c x.cps.toList).map ofL := by
  obtain ⟨p, ps, e⟩ := splitC_ne c x.cps.toList
  have h := parts_go x c (x.length + 1) 0 0 (by omega) (Nat.le_refl _) (p := p) (ps := ps) e
  rw [← occ_all, ← partsBetween_eq] at h
  have e2 : (splitC c x.cps.toList) = (partsBetween x (occurrences x ⟨#[c]⟩ 0 x.length (x.length + 1)) 1).map (fun s => s.cps.toList) := by
    rw [h, e]; rfl
  rw [e2, List.map_map]
  exact (List.map_id _).symm
/-- split by one sign -/
theorem split_eq (t : Str) {c : Nat} (hc : c < 256) : Txt.split t ⟨#[c]⟩ = (splitC c t.cps.toList).map ofL := by
  unfold Txt.split
  by_cases h0 : t.length = 0
  · have : t.cps.toList = [] := List.eq_nil_of_length_eq_zero (by rw [← len_ls]; exact h0)
    rw [if_pos (by rw [decide_eq_true (by rw [h0]; exact Nat.zero_lt_one)]; rfl), this]
    show [t] = [ofL []]
    rw [← this]; rfl
  · rw [if_neg (by
      rw [kind_one hc, decide_eq_false (by show ¬ t.length < 1; omega), decide_eq_false (by have := kind_ge t; omega)]; decide)]
    show (if _ then _ else partsBetween t (occurrences t ⟨#[c]⟩ 0 t.length (t.length + 1)) 1) = _
    split
    · rename_i h
      rw [← parts_eq, List.isEmpty_iff.mp h]
      show [t] = partsBetween t [] 1
      rw [partsBetween_eq]
      show [t] = [strSub t 0 t.length]
      rw [sub_whole]
    · exact parts_eq t c
theorem join_cons2 (y a b : Str) (r : List Str) : Str.join y (a :: b :: r) = a ++ y ++ Str.join y (b :: r) := rfl
theorem glue_split (c d : Nat) : ∀ (l : List Nat), (Str.join ⟨#[d]⟩ ((splitC c l).map ofL)).cps.toList = l.map fun x => if x = c then d else x
  | [] => rfl
  | x :: xs => by
    have ih := glue_split c d xs
    obtain ⟨p, ps, e⟩ := splitC_ne c xs
    by_cases h : x = c
    · rw [h, splitC_eq, List.map_cons, e, List.map_cons, join_cons2, ← List.map_cons, ← e]
      simp only [Str.cps_append, Array.toList_append, ih, List.map_cons, if_pos]
      rfl
    · rw [splitC_ne' h e, List.map_cons, List.map_cons, if_neg h, ← ih, e, List.map_cons]
      cases ps with
      | nil => rfl
      | cons q qs =>
        rw [List.map_cons, join_cons2, join_cons2]
        simp only [Str.cps_append, Array.toList_append]
        rfl
/-- one sign replaced by another one -/
theorem replace_eq (t : Str) (c d : Nat) : Txt.replace t ⟨#[c]⟩ ⟨#[d]⟩ = ofL (t.cps.toList.map fun x => if x = c then d else x) := by
  have key : ofL (t.cps.toList.map fun x => if x = c then d else x) = glued ⟨#[d]⟩ (partsBetween t (occurrences t ⟨#[c]⟩ 0 t.length (t.length + 1)) 1) := by
    rw [parts_eq, glued_eq_join]
    refine Str.ext' (Array.toList_inj.mp ?_)
    rw [glue_split]
    rfl
  unfold Txt.replace
  split
  · rename_i h
    have h : (occurrences t ⟨#[c]⟩ 0 t.length (t.length + 1)).isEmpty = true := by
      rcases Bool.or_eq_true _ _ |>.mp h with z | z
      · exact z
      · cases (show ((1 == 0) && (1 == 0)) = true from z)
    rw [key, List.isEmpty_iff.mp h, partsBetween_eq]
    show t = glued ⟨#[d]⟩ [strSub t 0 t.length]
    rw [sub_whole, glued_eq_join]
    rfl
  · exact key.symm

/-! ### the words of a text -/
theorem splitC_app (c : Nat) (r : List Nat) : ∀ l : List Nat, splitC c (l ++ c :: r) = splitC c l ++ splitC c r
  | [] => splitC_eq
  | x :: xs => by
    have ih := splitC_app c r xs
    obtain ⟨p, ps, e⟩ := splitC_ne c xs
    by_cases h : x = c
    · rw [h, List.cons_append, splitC_eq, splitC_eq, ih]; rfl
    · rw [List.cons_append, splitC_ne' h (p := p) (ps := ps ++ splitC c r) (by rw [ih, e]; rfl), splitC_ne' h e]
      rfl
theorem splitC_none {c : Nat} : ∀ {l : List Nat}, c ∉ l → splitC c l = [l]
  | [], _ => rfl
  | x :: xs, h => splitC_ne' (fun z => h (by rw [z]; exact List.mem_cons_self)) (splitC_none fun z => h (List.mem_cons_of_mem _ z))
theorem splitC_mem (c : Nat) : ∀ (l p : List Nat), p ∈ splitC c l → ∀ x ∈ p, x ∈ l ∧ x ≠ c
  | [], p, h, x, hx => by
    rw [List.mem_singleton.mp h] at hx; cases hx
  | y :: l, p, h, x, hx => by
    obtain ⟨q, qs, e⟩ := splitC_ne c l
    by_cases d : y = c
    · rw [d, splitC_eq] at h
      rcases List.mem_cons.mp h with z | z
      · rw [z] at hx; cases hx
      · obtain ⟨a, b⟩ := splitC_mem c l p z x hx
        exact ⟨List.mem_cons_of_mem _ a, b⟩
    · rw [splitC_ne' d e] at h
      rcases List.mem_cons.mp h with z | z
      · rw [z] at hx
        rcases List.mem_cons.mp hx with w | w
        · rw [w]; exact ⟨List.mem_cons_self, d⟩
        · obtain ⟨a, b⟩ := splitC_mem c l q (by rw [e]; exact List.mem_cons_self) x w
          exact ⟨List.mem_cons_of_mem _ a, b⟩
      · obtain ⟨a, b⟩ := splitC_mem c l p (by rw [e]; exact List.mem_cons_of_mem _ z) x hx
        exact ⟨List.mem_cons_of_mem _ a, b⟩
theorem splitC_len (c : Nat) : ∀ l : List Nat, (splitC c l).length ≤ l.length + 1 ∧ ∀ p ∈ splitC c l, p.length ≤ l.length
  | [] => ⟨Nat.le_refl _, fun p h => by rw [List.mem_singleton.mp h]; exact Nat.le_refl _⟩
  | y :: l => by
    obtain ⟨a, b⟩ := splitC_len c l
    obtain ⟨q, qs, e⟩ := splitC_ne c l
    by_cases d : y = c
    · rw [d, splitC_eq]
      refine ⟨by rw [List.length_cons, List.length_cons]; omega, fun p h => ?_⟩
      rcases List.mem_cons.mp h with z | z
      · rw [z]; exact Nat.zero_le _
      · exact Nat.le_trans (b p z) (Nat.le_succ _)
    · rw [splitC_ne' d e]
      rw [e] at a b
      refine ⟨by rw [List.length_cons] at a ⊢; rw [List.length_cons]; omega, fun p h => ?_⟩
      rcases List.mem_cons.mp h with z | z
      · rw [z, List.length_cons, List.length_cons]
        exact Nat.succ_le_succ (b q List.mem_cons_self)
      · exact Nat.le_trans (b p (List.mem_cons_of_mem _ z)) (Nat.le_succ _)
def isB (x : Nat) : Prop := x = 32 ∨ x = 10
def ws0 (l : List Nat) : List (List Nat) := (splitC 32 (l.map fun x => if x = 10 then 32 else x)).filter fun p => !p.isEmpty
theorem ws0_app {b : Nat} (h : isB b) (l r : List Nat) : ws0 (l ++ b :: r) = ws0 l ++ ws0 r := by
  unfold ws0
  rw [List.map_append, List.map_cons, show (if b = 10 then 32 else b) = 32 by rcases h with h | h <;> subst h <;> rfl, splitC_app, List.filter_append]
theorem ws0_nil : ws0 [] = [] := rfl
theorem ws0_blank {b : Nat} (h : isB b) (r : List Nat) : ws0 (b :: r) = ws0 r := ws0_app h [] r
theorem ws0_one {w : List Nat} (hw : w ≠ []) (h : ∀ x ∈ w, ¬ isB x) : ws0 w = [w] := by
  have e : w.map (fun x => if x = 10 then 32 else x) = w := by
    conv => rhs; rw [← List.map_id w]
    refine List.map_congr_left fun x hx => ?_
    rw [if_neg fun z => h x hx (.inr z)]; rfl
  unfold ws0
  rw [e, splitC_none fun z => h 32 z (.inl rfl)]
  cases w with
  | nil => exact absurd rfl hw
  | cons a b => rfl
theorem ws0_gap {r : List Nat} : ∀ {g : List Nat}, (∀ x ∈ g, isB x) → ws0 (g ++ r) = ws0 r
  | [], _ => rfl
  | b :: g, h => by rw [List.cons_append, ws0_blank (h b List.mem_cons_self)]; exact ws0_gap fun x hx => h x (List.mem_cons_of_mem _ hx)
theorem ws0_end {l : List Nat} : ∀ {g : List Nat}, (∀ x ∈ g, isB x) → ws0 (l ++ g) = ws0 l
  | [], _ => by rw [List.append_nil]
  | b :: g, h => by
    have := ws0_gap (g := g) (r := []) fun x hx => h x (List.mem_cons_of_mem _ hx)
    rw [List.append_nil] at this
    rw [ws0_app (h b List.mem_cons_self), this, ws0_nil, List.append_nil]
/-- a word, some gap, and what comes then -/
theorem ws0_word {w g r : List Nat} (hw : w ≠ []) (h : ∀ x ∈ w, ¬ isB x) (hg : g ≠ []) (hb : ∀ x ∈ g, isB x) : ws0 (w ++ (g ++ r)) = w :: ws0 r := by
  cases g with
  | nil => exact absurd rfl hg
  | cons b g =>
    rw [List.cons_append, ws0_app (hb b List.mem_cons_self), ws0_one hw h, ws0_gap fun x hx => hb x (List.mem_cons_of_mem _ hx)]
    rfl
theorem ws0_mem {l p : List Nat} (h : p ∈ ws0 l) : p ≠ [] ∧ p.length ≤ l.length ∧ ∀ x ∈ p, x ∈ l ∧ ¬ isB x := by
  unfold ws0 at h
  obtain ⟨h, h2⟩ := List.mem_filter.mp h
  refine ⟨fun z => by rw [z] at h2; exact absurd h2 (by decide), by simpa using (splitC_len 32 _).2 p h, fun x hx => ?_⟩
  obtain ⟨a, b⟩ := splitC_mem 32 _ p h x hx
  obtain ⟨y, hy, e⟩ := List.mem_map.mp a
  by_cases d : y = 10
  · rw [if_pos d] at e; exact absurd e.symm b
  · rw [if_neg d] at e
    rw [← e]
    refine ⟨hy, fun z => ?_⟩
    rcases z with z | z
    · exact b (e.symm.trans z)
    · exact d z
theorem ws0_len (l : List Nat) : (ws0 l).length ≤ l.length + 1 := by
  unfold ws0
  refine Nat.le_trans (List.length_filter_le _ _) ?_
  simpa using (splitC_len 32 (l.map fun x => if x = 10 then 32 else x)).1
theorem nl_is : (("\n" : Str)) = ⟨#[10]⟩ := by decide +kernel
theorem bl_is : ((" " : Str)) = ⟨#[32]⟩ := by decide +kernel
theorem em_is : (("" : Str)) = ⟨#[]⟩ := by decide +kernel
/-- the words of a text -/
theorem words_eq (t : Str) : ((Txt.split (Txt.replace t "\n" " ") " ").filter fun w => !decide (w = ("" : Str))) = (ws0 t.cps.toList).map ofL := by
  rw [nl_is, bl_is, em_is, split_eq _ (by decide), replace_eq, ls_ofL]
  unfold ws0
  rw [List.filter_map]
  refine congrArg _ (List.filter_congr fun p _ => ?_)
  show (!decide (ofL p = ⟨#[]⟩)) = !p.isEmpty
  cases p with
  | nil => rfl
  | cons a b => rw [decide_eq_false (fun z => by have := congrArg (fun s : Str => s.cps.toList) z; cases this)]; rfl
/-! ### numbers as texts -/
def sgI (i : Int) : List Nat := if i < 0 then 45 :: TL.numL i.natAbs else TL.numL i.natAbs
theorem str_int (i : Int) : (Str.ofString (toString i)).cps.toList = sgI i := by
  unfold sgI
  cases i with
  | ofNat n => rw [if_neg (by show ¬ ((n : Nat) : Int) < 0; omega)]; exact TL.tl_num n
  | negSucc n =>
    rw [if_pos (by omega)]
    show (Str.ofString ("-" ++ toString (n + 1))).cps.toList = 45 :: TL.numL (n + 1)
    have e := TL.tl_num (n + 1)
    have e2 : (Str.ofString (toString (n + 1))).cps.toList = TL.numL (n + 1) := e
    rw [Str.ofString_eq_toList] at e2 ⊢
    rw [String.toList_append, List.map_append]
    rw [← e2]
    rfl
theorem numL_head {n : Nat} (h : n ≠ 0) : ∃ d r, TL.numL n = (48 + d) :: r ∧ 1 ≤ d ∧ d ≤ 9 := by
  induction n using Nat.strongRecOn with
  | _ n ih =>
    by_cases c : n < 10
    · exact ⟨n, [], TL.numL_lt c, by omega, by omega⟩
    · obtain ⟨d, r, e, h1, h2⟩ := ih (n / 10) (by omega) (by omega)
      exact ⟨d, r ++ [48 + n % 10], by rw [TL.numL_step (by omega), e]; rfl, h1, h2⟩
/-! ### rstrip of some signs -/
def rRstripC : L2.V → List L2.V → L2.Hp → L2.VK → Prop := fun x xs H Q => ∃ a b, x = .str a ∧ xs = [.str b] ∧ a.length ≤ sizeLine ∧ Q (.str (Txt.rstripChars a b)) H
theorem s_rstripC {a b : Str} {H : L2.Hp} {Q : L2.VK} (h : a.length ≤ sizeLine) (q : Q (.str (Txt.rstripChars a b)) H) : rRstripC (.str a) [.str b] H Q := ⟨a, b, rfl, rfl, h, q⟩
theorem rstrip_cut (x y : Str) : ∃ g, x.cps.toList = (Txt.rstripChars x y).cps.toList ++ g ∧ ∀ c ∈ g, c ∈ y.cps.toList := by
  have l := len_ls x
  have e : (Txt.rstripChars x y).cps.toList = x.cps.toList.take (x.length - (x.cps.toList.reverse.takeWhile y.cps.contains).length) := by
    unfold Txt.rstripChars
    rw [PyProof.Rows.stripBy_eq, strSub_toList]
    show (x.cps.toList.drop 0).take (x.length - ((x.cps.toList.drop 0).reverse.takeWhile y.cps.contains).length - 0) = _
    rw [List.drop_zero, Nat.sub_zero]
  refine ⟨x.cps.toList.drop (x.length - (x.cps.toList.reverse.takeWhile y.cps.contains).length), by rw [e, List.take_append_drop], fun c hc => ?_⟩
  have h2 : c ∈ (x.cps.toList.reverse.takeWhile y.cps.contains) := by
    have h3 : x.cps.toList.reverse.take (x.cps.toList.reverse.takeWhile y.cps.contains).length = x.cps.toList.reverse.takeWhile y.cps.contains := by
      conv => lhs; rw [← List.takeWhile_append_dropWhile (p := y.cps.contains) (l := x.cps.toList.reverse)]
      conv => lhs; arg 1; rw [List.takeWhile_append_dropWhile]
      exact List.take_left' rfl
    rw [← h3, List.take_reverse, List.mem_reverse, ← l]
    exact hc
  have := List.all_eq_true.mp (List.all_takeWhile (p := y.cps.contains) (l := x.cps.toList.reverse)) c h2
  simpa using this
theorem rstrip_ws {x y : Str} (h : ∀ c ∈ y.cps.toList, isB c) : ws0 (Txt.rstripChars x y).cps.toList = ws0 x.cps.toList := by
  obtain ⟨g, e, hg⟩ := rstrip_cut x y
  rw [e, ws0_end fun c hc => h c (hg c hc)]
theorem rstrip_ok {x y : Str} (h : PyData.strOk x = true) : PyData.strOk (Txt.rstripChars x y) = true ∧ (Txt.rstripChars x y).length ≤ x.length := by
  obtain ⟨g, e, hg⟩ := rstrip_cut x y
  refine ⟨?_, by rw [len_ls, len_ls, e, List.length_append]; omega⟩
  unfold PyData.strOk at h ⊢
  rw [Array.all_eq_true_iff_forall_mem] at h ⊢
  intro c hc
  exact h c (Array.mem_toList_iff.mp (by rw [e]; exact List.mem_append_left _ (Array.mem_toList_iff.mpr hc)))
/-! ### index of a sign in a text -/
def rSIndex : L2.V → List L2.V → L2.Hp → L2.VK → Prop := fun x xs H Q => ∃ a b i rest, x = .str a ∧ xs = [.str b] ∧ Builtin.Str.occurrences a b 0 a.length 1 = i :: rest ∧ Q (.int (i : Nat)) H
theorem s_sindex {a b : Str} {i : Nat} {H : L2.Hp} {Q : L2.VK} (h : Builtin.Str.occurrences a b 0 a.length 1 = [i]) (q : Q (.int (i : Nat)) H) : rSIndex (.str a) [.str b] H Q := ⟨a, b, i, [], rfl, rfl, h, q⟩
end Z
set_option Elab.async false
set_option linter.all false
set_option maxRecDepth 100000
set_option maxHeartbeats 4000000
/-! ### written dicts of the module: texts to whole numbers -/
namespace Z
open PySem PySem.Spec PyProof.Rows
open L2 hiding rLen Same Same.refl Same.trans Same.free Same.seq Same.made
def DctK (K : PySem.W.Frag) (w : World) (d : Addr) (kvs : List (Str × Int)) : Prop := ∃ es n, KDict K w d es n ∧ es.toList.map He.keyOf = He.keysIn w.params (kvs.map (·.1)) ∧ ∀ q ∈ kvs, ∃ u, PySem.W.nsIn K d q.1 = some (some u) ∧ RelV (.int q.2) u
section
variable {K : PySem.W.Frag} {w : World} {d : Addr} {kvs : List (Str × Int)}
theorem key_at {P : Params} : ∀ {l : List DictEntry} {ks : List Str}, l.map He.keyOf = He.keysIn P ks → ∀ e ∈ l, ∃ x t, e.key = .str x t ∧ x ∈ ks
  | [], _, _, e, he => by cases he
  | a :: l, [], h, e, he => by cases h
  | a :: l, k :: ks, h, e, he => by
    have h' : He.keyOf a :: l.map He.keyOf = some (k, PyData.keyHash P k) :: He.keysIn P ks := h
    obtain ⟨h1, h2⟩ := List.cons.inj h'
    rcases List.mem_cons.mp he with z | z
    · subst z
      unfold He.keyOf at h1
      split at h1
      · rename_i x t q
        have := (Prod.mk.inj (Option.some.inj h1)).1
        exact ⟨x, t, q, by rw [this]; exact List.mem_cons_self⟩
      · cases h1
    · obtain ⟨x, t, q, m⟩ := key_at h2 e z
      exact ⟨x, t, q, List.mem_cons_of_mem _ m⟩
theorem key_get {P : Params} : ∀ {l : List DictEntry} {ks : List Str}, l.map He.keyOf = He.keysIn P ks → l.length = ks.length ∧ ∀ (i : Nat) (k : Str), ks[i]? = some k → ∃ e t, l[i]? = some e ∧ e.key = .str k t
  | [], [], _ => ⟨rfl, fun i k e => by cases e⟩
  | [], k :: ks, h => by cases h
  | a :: l, [], h => by cases h
  | a :: l, k :: ks, h => by
    have h' : He.keyOf a :: l.map He.keyOf = some (k, PyData.keyHash P k) :: He.keysIn P ks := h
    obtain ⟨h1, h2⟩ := List.cons.inj h'
    obtain ⟨r1, r2⟩ := key_get h2
    refine ⟨by rw [List.length_cons, List.length_cons, r1], fun i x e => ?_⟩
    cases i with
    | zero =>
      cases e
      unfold He.keyOf at h1
      split at h1
      · rename_i x t q
        have := (Prod.mk.inj (Option.some.inj h1)).1
        exact ⟨a, t, rfl, by rw [q, this]⟩
      · cases h1
    | succ i => exact r2 i x e
theorem dct_in (D : DctK K w d kvs) (z : Str) : ∃ r, PySem.W.nsIn K d z = some r ∧ r.isSome = decide (z ∈ kvs.map (·.1)) := by
  obtain ⟨es, n, KD, hk, _⟩ := D
  have kg := key_get hk
  unfold PySem.W.nsIn
  rw [KD.at_]
  dsimp only
  cases e : es.toList.find? fun x => x.key.isStr z with
  | some en =>
    refine ⟨_, rfl, ?_⟩
    have m := List.mem_of_find?_eq_some e
    have p := List.find?_some e
    obtain ⟨x, t, q, hm⟩ := key_at hk en m
    rw [q] at p
    have : x = z := by have p' : (x == z) = true := p; exact eq_of_beq p'
    rw [← this]
    simp [hm]
  | none =>
    have nr : (es.toList.any fun x => x.refKey) = false := List.any_eq_false.mpr fun en m => by
      obtain ⟨x, t, q, hm⟩ := key_at hk en m
      unfold DictEntry.refKey
      rw [q]
      exact Bool.false_ne_true
    rw [nr]
    refine ⟨none, rfl, ?_⟩
    have nz : z ∉ kvs.map (·.1) := fun hm => by
      obtain ⟨i, hi⟩ := List.mem_iff_getElem?.mp hm
      obtain ⟨en, t, e1, e2⟩ := kg.2 i z hi
      have := List.find?_eq_none.mp e en (List.mem_of_getElem? e1)
      rw [e2] at this
      exact this (by show (z == z) = true; exact beq_self_eq_true z)
    simp [nz]
theorem dct_get (D : DctK K w d kvs) {k : Str} {v : Int} (h : (k, v) ∈ kvs) : ∃ u, PySem.W.nsIn K d k = some (some u) ∧ RelV (.int v) u := D.elim fun es z => z.elim fun n y => y.2.2 _ h
end
theorem dctK_of {K : PySem.W.Frag} {w : World} {a : Addr} {ks : List Str} {kvs : List (Str × Int)} (h : He.dicW K a = some (He.keysIn w.params ks)) (e : ks = kvs.map (·.1)) (hv : He.valsB K a (kvs.map fun q => (q.1, He.Dv.int q.2)) = true) : DctK K w a kvs := by
  obtain ⟨es, n, KD⟩ := He.dicW_ok h
  refine ⟨es, n, KD, ?_, fun q hq => ?_⟩
  · unfold He.dicW at h
    rw [KD.at_] at h
    have low := KD.low
    have h1 : (match decide (("dict" : String) = "dict") && ((#[] : Array Value).isEmpty && !(a == sysModules)) with
      | true => some (es.toList.map He.keyOf)
      | false => none) = some (He.keysIn w.params ks) := h
    rw [low] at h1
    have h2 := Option.some.inj h1
    rw [← e]
    exact h2
  · have m : ((q.1, He.Dv.int q.2) : Str × He.Dv) ∈ kvs.map (fun q => (q.1, He.Dv.int q.2)) := List.mem_map_of_mem hq
    exact He.valsB_ok hv m
/-! ### the rules -/
def rInK (K : PySem.W.Frag) (w : World) : R2 := fun x y H Q => ∃ z d kvs, x = .str z ∧ y = .ref d ∧ DctK K w d kvs ∧ Q (.bl (decide (z ∈ kvs.map (·.1)))) H
def rIxK (K : PySem.W.Frag) (w : World) : R2 := fun x y H Q => ∃ z d kvs v, x = .ref d ∧ y = .str z ∧ DctK K w d kvs ∧ (z, v) ∈ kvs ∧ Q (.int v) H
section
variable {X : Cx}
theorem op_inK : OpR X (compareOp .In) (rInK X.K X.w) := by
  intro pins s σ H x y v u Q I rx ry h
  obtain ⟨z, d, kvs, rfl, rfl, D, q⟩ := h
  obtain ⟨r, e1, e2⟩ := dct_in D z
  obtain ⟨es, n, KD, hk, _⟩ := D
  exact op_in_kd KD pins s σ H _ _ v u Q I rx ry ⟨z, r, rfl, rfl, e1, by rw [e2]; exact q⟩
theorem ix_kd : IxR X (rIxK X.K X.w) := by
  intro value slice pins s σ H x y v u Q I rx ry h hs
  obtain ⟨z, d, kvs, r, rfl, rfl, D, m, q⟩ := h
  obtain ⟨u0, e, ru⟩ := dct_get D m
  obtain ⟨es, n, KD, hk, _⟩ := D
  exact ix_kdict value slice pins s σ H _ _ v u Q I rx ry ⟨d, z, _, rfl, rfl, ⟨es, n, u0, KD.at_, KD.lit, e, ru⟩, q⟩ hs
def Itkk (ks : List Str) : It where
  go := fun i H => i < ks.length
  yld := fun i H x H' => H' = H ∧ ∃ k, ks[i]? = some k ∧ x = .str k
  stop := fun i H => ks.length ≤ i
theorem turn_kk {P : Program} {w : World} {K : PySem.W.Frag} {tg : Expr} {d : Addr} {ks : List Str} {es : Array DictEntry} {n : Nat} (it : Addr) (KD : KDict K w d es n) (hk : es.toList.map He.keyOf = He.keysIn w.params ks) : Turn P w K tg (Itkk ks) [it] it (fun i h => h.IsKeyIter it d i ks.length n) where
  mem := by simp
  obj := fun i h st b hb => by
    have e : b = it := by simpa using hb
    subst e
    obtain ⟨oi, e, c, dd⟩ := st
    exact ⟨oi, e, fun v z => by rw [dd] at z; cases z⟩
  keep := fun i h h' st k => by
    obtain ⟨oi, e, c, dd⟩ := st
    exact ⟨oi, k it (by simp) oi e, c, dd⟩
  item := by
    intro X hP hw hK hc i pins s σ H E I hf st hg
    subst hP hw hK
    obtain ⟨f0, f1, f2, f3, f4, f5⟩ := hf it (by simp)
    have hgd := I.kIn d _ KD.at_
    obtain ⟨kl, kg⟩ := key_get hk
    obtain ⟨k, hkv⟩ : ∃ p, ks[i]? = some p := ⟨ks[i], List.getElem?_eq_getElem hg⟩
    obtain ⟨en, t, e1, e2⟩ := kg i k hkv
    have hsz : es.size = ks.length := by rw [← kl, Array.length_toList]
    have he : es[i]? = some en := by rw [← Array.getElem?_toList]; exact e1
    refine next_key_item st hgd rfl hsz he fun h' st' sb => ?_
    have I1 : Inv X pins σ H { s with heap := h' } := I.turned (t' := s.toks) (fun b ob hb e => (sb.2 b hb).trans e) f0 f1 f3 f4 f5
    obtain ⟨oi, e, c, dd⟩ := id st'
    exact ⟨en.key, rfl, go_of (s := { s with heap := h' }) e c dd (by decide) ⟨.str k, H, I1, ⟨t, e2⟩, ⟨rfl, k, hkv, rfl⟩, st', fun b hb => (hf b hb).1⟩⟩
  done := by
    intro X hP hw hK hc i pins s σ H E I hf st hg
    subst hP hw hK
    obtain ⟨f0, f1, f2, f3, f4, f5⟩ := hf it (by simp)
    have hgd := I.kIn d _ KD.at_
    obtain ⟨kl, kg⟩ := key_get hk
    have hsz : es.size = ks.length := by rw [← kl, Array.length_toList]
    exact next_key_end (I.ok.hd hc) st hgd rfl hsz hg fun h' eb => ⟨rfl, I.turned (t' := s.toks) (fun b ob hb e => eb b ob hb e) f0 f1 f3 f4 f5⟩
  self := fun A i s Q E st h => wpAny_pyIter_keyiter st h
def iKK (K : PySem.W.Frag) (w : World) (td : TE) : TI := fun σ H R => td σ H fun x H1 => ∃ d kvs, x = .ref d ∧ DctK K w d kvs ∧ R (Itkk (kvs.map (·.1))) H1
theorem pi_kk {tg e : Expr} {td : TE} (he : PE X e td) : PI X tg e (iKK X.K X.w td) := by
  refine ⟨fun pins s σ H R I h => ?_⟩
  refine thn (he.run pins s σ H _ I h) fun u s1 ⟨x, H1, I1, rx, d, kvs, ex, D, q⟩ => ?_
  subst ex
  obtain rfl : u = Value.ref d := rx
  obtain ⟨es, n, KD, hk, _⟩ := D
  obtain ⟨kl, kg⟩ := key_get hk
  refine iter_keys KD.low (I1.kIn d _ KD.at_) ⟨rfl, rfl, rfl⟩ rfl (pi_one (tk := s1.toks) I1 _ (turn_kk _ KD hk) ⟨_, Heap.get?_push_size _ rfl, rfl, ?_⟩ q)
  have hsz : es.size = (kvs.map (·.1)).length := by rw [← kl, Array.length_toList]
  rw [hsz] <;> rfl
theorem loop_kk {ks : List Str} {g : TG} {tb1 : TS} {N b c : L2.St → Hp → Prop} {r : VK} {σ : L2.St} {H : Hp} (Pv : Nat → L2.St → Hp → Prop) (h0 : Pv 0 σ H) (hs : ∀ i k σ' H', ks[i]? = some k → Pv i σ' H' → g (.str k) σ' H' fun σ2 H2 => tb1 ⟨Pv (i + 1), r, N, Pv (i + 1)⟩ σ2 H2)
    (hd : ∀ σ' H', Pv ks.length σ' H' → N σ' H') : zLoop (Itkk ks) g tb1 ⟨N, r, b, c⟩ σ H := by
  refine ⟨fun i m σ H => m = ks.length - i ∧ i ≤ ks.length ∧ Pv i σ H, ⟨_, rfl, Nat.zero_le _, h0⟩, fun i m σ' H' h => ?_⟩
  obtain ⟨rfl, hi, p⟩ := h
  by_cases e : i < ks.length
  · refine .inr ⟨e, Pv (i + 1), fun σ2 H2 p2 => ⟨ks.length - (i + 1), by omega, rfl, e, p2⟩, fun x H2 y => ?_⟩
    obtain ⟨rfl, cc, hc, rfl⟩ := y
    exact hs i cc σ' _ hc p
  · obtain rfl : i = ks.length := by omega
    exact .inl ⟨Nat.le_refl _, hd _ _ p⟩
theorem s_inK {K : PySem.W.Frag} {w : World} {d : Addr} {kvs : List (Str × Int)} {z : Str} {H : Hp} {Q : VK} (D : DctK K w d kvs) (q : Q (.bl (decide (z ∈ kvs.map (·.1)))) H) : rInK K w (.str z) (.ref d) H Q := ⟨z, d, kvs, rfl, rfl, D, q⟩
theorem s_ixK {K : PySem.W.Frag} {w : World} {d : Addr} {kvs : List (Str × Int)} {z : Str} {v : Int} {H : Hp} {Q : VK} (D : DctK K w d kvs) (m : (z, v) ∈ kvs) (q : Q (.int v) H) : rIxK K w (.ref d) (.str z) H Q := ⟨z, d, kvs, v, rfl, rfl, D, m, q⟩
theorem s_itkk {K : PySem.W.Frag} {w : World} {d : Addr} {kvs : List (Str × Int)} {te : TE} {σ : L2.St} {H : Hp} {R : It → Hp → Prop} (h : te σ H fun x H1 => ∃ d kvs, x = .ref d ∧ DctK K w d kvs ∧ R (Itkk (kvs.map (·.1))) H1) : iKK K w te σ H R := h
end
end Z
set_option Elab.async false
set_option linter.all false
set_option maxRecDepth 100000
set_option maxHeartbeats 4000000
/-! ### exceptions that are kept behind their clause -/
namespace Z
open PySem PySem.Spec PyProof.Rows L2
variable [TQ]
def kxo (a : Addr) (cls : Value) (d : Option Addr) : HO := .ext fun h => ∃ oe vs, h.get? a = some oe ∧ Zc cls d oe ∧ oe.data = .fields vs
theorem kxo_ok {P : Program} {w : World} {H : Hp} {h : Heap} {a : Addr} {cls : Value} {d : Option Addr} {oe : Obj} {vs : Array Value} (e : h.get? a = some oe) (z : Zc cls d oe) (f : oe.data = .fields vs) : ObjOk P w H h a (kxo a cls d) :=
  ⟨⟨oe, vs, e, z, f⟩, ⟨oe, e⟩, fun h1 h2 ⟨o1, v1, g1, g2, g3⟩ k => ⟨o1, v1, k _ g1, g2, g3⟩⟩
theorem kxo_at {P : Program} {w : World} {H : Hp} {h : Heap} {a : Addr} {cls : Value} {d : Option Addr} (hok : HOk P w H h) (e : H a = some (kxo a cls d)) : ∃ oe vs, h.get? a = some oe ∧ Zc cls d oe ∧ oe.data = .fields vs := by
  have x : ObjOk P w H h a (.ext fun h => ∃ oe vs, h.get? a = some oe ∧ Zc cls d oe ∧ oe.data = .fields vs) := hok a _ e
  exact x.1
section
variable {X : Cx} {pins pn' : List (Addr × Obj)} {σ : L2.St} {H : Hp} {s : Shared} {a : Addr} {oe : Obj} {vs : Array Value} {cls : Value} {d : Option Addr}
theorem inv_keep (ok : X.Ok) (I : Inv (X.suite a ((a, oe) :: (X.pn ++ pins))) pn' σ H s) (hz : Zc cls d oe) (hd : oe.data = .fields vs) (new : ∀ b o, X.s_0.heap.get? b = some o → b ≠ a) (np : ∀ p ∈ X.pn ++ pins, p.1 ≠ a) :
    Inv X pins σ (upd H a (kxo a cls d)) s := by
  obtain ⟨ha, na, nL, nF, nc⟩ := I.pin (a, oe) (List.mem_append_left _ List.mem_cons_self)
  have up : ∀ {b : Addr} {u : HO}, H b = some u → upd H a (kxo a cls d) b = some u := fun {b u} e => (upd_ne (ne_of_none e na)).trans e
  have B := I.base
  refine ⟨ok, I.os, I.bare, ⟨B.keep, B.slot, fun b o e n hx => (upd_ne (new b o e)).trans (B.free b o e n hx), B.there, fun b xs e => up (B.tups b xs e), fun b o u e => up (B.frzs b o u e), fun b ps e => ?_⟩, I.loc, I.cell, ?_, fun x c e => ?_, fun p hp => ?_, fun b o e => ?_, I.len⟩
  · obtain ⟨more, q⟩ := B.tbls b ps e
    exact ⟨more, up q⟩
  · exact (upd_ne nL.symm).trans I.free
  · refine (upd_ne fun z => ?_).trans (I.freeC x c e)
    obtain ⟨v, o, q, qd⟩ := I.cell x c e
    subst z
    cases (show s.heap.get? c = some oe from ha).symm.trans q
    exact nc v qd
  · obtain ⟨g1, g2, g3⟩ := I.pin p (List.mem_append_left _ (List.mem_cons_of_mem _ hp))
    exact ⟨g1, (upd_ne (np p hp)).trans g2, g3⟩
  · by_cases c : b = a
    · subst c
      rw [upd_same] at e
      cases e
      exact kxo_ok ha hz hd
    · rw [upd_ne c] at e
      exact (I.hok b o e).stay (fun _ _ _ q => q) (fun _ q => up q) fun _ _ q => up q
end
/-- what the clause wishes of an exception of the body: it is kept -/
def wKeep (K : PySem.W.Frag) (c : Value) (i : Nat) (ts : TS) (Wout : WX) (D : Ends) : WX := fun cls d σ H =>
  ∃ b, PySem.W.exmOne K cls c = some b ∧ (b = true → ∀ a, H a = none → ts ⟨fun σ' H' => H' a = none → D.nx (σ'.set i none) (upd H' a (kxo a cls d)), fun _ _ => False, fun _ _ => False, fun _ _ => False⟩ (σ.set i (some (.ref a))) H) ∧ (b = false → Wout cls d σ H)
def sTryKeep (K : PySem.W.Frag) (c : Value) (i : Nat) (tb : WX → TS) (ts : TS) (W : WX) : TS := fun D σ H => tb (wKeep K c i ts W D) D σ H
section
variable {X : Cx} {x n : Str} {c : Value} {i : Nat} {body suite : List Stmt} {b₀ : Stmt} {np pos pos' : Pos} {tb : WX → TS} {ts : TS} {Wout : WX}
theorem ps_try_keep (hs : X.stack = X.env :: X.outer) (hf : X.env.frame = some X.env.locals) (hex : X.ex = []) (hN : X.N.Nodup) (hi : X.N[i]? = some n) (hln : X.env.kindOf n = some .local) (hc : Names X x c) (tk : Takes X Wout)
    (hb : ∀ (W : WX) (pn : List (Addr × Obj)) (xe : Value → Shared → Prop), Takes (X.tr pn xe) W → PassesOwn (model X.prog X.w) X.A X.env xe → PSs (X.tr pn xe) body (tb W))
    (hsu : ∀ (a : Addr) (oe : Obj) (pn : List (Addr × Obj)), PSs (X.suite a ((a, oe) :: pn)) (b₀ :: suite) ts) :
    PS X (.Try body [.ExceptHandler (some (.Name x np)) (some n) (b₀ :: suite) pos'] [] [] pos) (sTryKeep X.K c i tb ts Wout) := by
  refine ⟨fun pins s σ H D I0 h0 => ?_⟩
  have okX := I0.ok
  have frX : X.A.frames = some (X.env :: X.outer) := by rw [← hs]; exact okX.frames
  refine wpAny_Try_except ?_
  refine wpAny_mono ((hb (wKeep X.K c i ts Wout D) (X.pn ++ pins)
    (fun er z1 => wpAny (model X.prog X.w) X.A (noteFrame er X.env) (fun _ z2 => wpAny (model X.prog X.w) X.A (setFlight er none)
      (fun _ z3 => wpAny (model X.prog X.w) X.A (handleBy er X.env [.ExceptHandler (some (.Name x np)) (some n) (b₀ :: suite) pos']) (SP X pins D) X.xe z3) X.xe z2) X.xe z1)
    (fun u t0 xx => ?_) PassesOwn.looking).run [] s σ H D (I0.toTry _) h0) (fun f t1 hsp => ?_) fun er t1 he => he
  · obtain ⟨p, G, sI, pins1, τ, H1, cls, d, rfl, J0, nb, up0, sky0, np1, os0, bare0, b, hb1, hyes, hno⟩ := xx
    have J1 : Inv X pins τ H1 sI := J0.ofTry okX
    have sky1 : Sky G (X.env :: X.outer) p (Zc cls d) X.env.locals t0.heap := by rw [← hs]; exact sky0
    show wpAny (model X.prog X.w) X.A (noteFrame (.ref p) X.env) _ _ _
    refine Sky.land Zc.steady frX hf sky1 fun g3 fl3 up3 => ?_
    have J3 : Inv X pins τ H1 { t0 with heap := g3 } := J1.landed nb fl3.1 (up0.trans up3) os0 bare0
    obtain ⟨o3, v3, e3, z3, d3⟩ := fl3.there
    have gG : G.get? p = none := fl3.2.1
    have nfr : p ∉ frs (X.env :: X.outer) := fun hm => by
      obtain ⟨_, o', e', hnf⟩ := fl3.2.2.1.mem hm
      rw [e3] at e'; cases e'
      exact hnf _ d3
    have nL : p ≠ X.env.locals := fun z => nfr (List.mem_filterMap.mpr ⟨X.env, List.mem_cons_self, by rw [hf, z]⟩)
    have nF : p ∉ X.fs := fun hm => by
      obtain ⟨er, he, q⟩ := List.mem_filterMap.mp hm
      exact nfr (List.mem_filterMap.mpr ⟨er, List.mem_cons_of_mem _ he, q⟩)
    have far : ∀ {b : Addr} {o : Obj}, sI.heap.get? b = some o → b ≠ p := fun {b o} e z => by
      subst z
      have := nb b o e (by rw [hs]; exact nfr)
      rw [gG] at this; cases this
    have newp : ∀ (b : Addr) (o : Obj), X.s_0.heap.get? b = some o → b ≠ p := fun b o e => by
      obtain ⟨o', e'⟩ := J1.base.there b o e (by rw [hex]; exact List.not_mem_nil)
      exact far e'
    have pinp : ∀ q ∈ X.pn ++ pins, q.1 ≠ p := fun q hq => far (J1.pin q hq).1
    have S3 := J3.suite e3 d3 np1 nL nF
    refine wpAny_handleBy_cons (codeAny_handlers_test ?_) (by intro q; cases q)
    have LT : PySem.W.Looks (model X.prog X.w) g3 (typeOf (.ref p)) cls := fun A Q E s k q => wpAny_typeOf_ref (k _ _ e3) (by rw [z3.1]; exact q)
    have LM := PySem.W.exm_one (M := model X.prog X.w) (J3.kIn) LT hb1
    have asks : ∀ {Q : Value → Shared → Prop} {E : Value → Shared → Prop}, Q c { t0 with heap := g3 } → wpAny (model X.prog X.w) (X.A.mark (some (.ref p))) (eval (.Name x np) X.env) Q E { t0 with heap := g3 } := fun {Q E} q => by
      obtain ⟨hg, hdbg, hm | ⟨hm, hv, hnn⟩⟩ := hc
      · exact ld_glob (X := X.suite p ((p, o3) :: (X.pn ++ pins))) S3 hg hm q hdbg
      · exact ld_blt (X := X.suite p ((p, o3) :: (X.pn ++ pins))) S3 hg hm hv q hnn hdbg
    refine asks (LM.here ?_)
    cases b with
    | false =>
      show wpAny _ X.A (handleBy (.ref p) X.env []) _ _ _
      refine wpAny_handleBy_nil ?_
      obtain ⟨k1, k2, k3, oe, ws, tr, otr, us, he, hz, hd, h1, hr⟩ := id fl3
      unfold PySem.passOn
      refine wpAny_bind (wpAny_field he hd h1 ?_)
      rw [if_neg (show ¬ ((Value.ref tr == Value.none) = true) from by simp)]
      have gone : wpAny (model X.prog X.w) X.A (setFlight (.ref p) X.env.frame) (fun _ s4 => wpAny (model X.prog X.w) X.A (throw (.ref p) : Sem Flow) (SP X pins D) X.xe s4) X.xe { t0 with heap := g3 } := by
        rw [hf]
        refine HandSPX.setFlight_upZ fl3 fun g4 hh4 up4 => wpAny_throw (tk _ _ ?_)
        exact ⟨p, G, sI, pins, τ, H1, cls, d, rfl, J1, nb, (up0.trans up3).trans up4, .inr (.inr (by rw [hs]; exact hh4)), np1, os0, bare0, hno rfl⟩
      first
        | exact wpAny_bind (wpAny_pure (wpAny_bind gone))
        | exact wpAny_bind gone
    | true =>
      refine codeAny_handlers_suite_as ?_
      refine HandSPX.lands_againZ fl3 fun g4 fl4 up4 => ?_
      have J4 : Inv X pins τ H1 { t0 with heap := g4 } := J1.landed nb fl4.1 ((up0.trans up3).trans up4) os0 bare0
      obtain ⟨o4, v4, e4, z4, d4⟩ := fl4.there
      have S4 := J4.suite e4 d4 np1 nL nF
      refine store_ok (X := X.suite p ((p, o4) :: (X.pn ++ pins))) (v := .ref p) S4 hN hi (.inl hln) rfl (fun s5 S5 => ?_) (.inr hln)
      refine wpAny_mono ((hsu p o4 (X.pn ++ pins)).run [] s5 _ H1 _ S5 (hyes rfl p np1)) (fun f s6 hsp => ?_) fun _ _ z => z.elim
      cases f with
      | next =>
        obtain ⟨σ6, H6, S6, q6⟩ := hsp
        have h6 : H6 p = none := (S6.pin (p, o4) (List.mem_append_left _ List.mem_cons_self)).2.1
        exact gone_ok (inv_keep okX S6 z4 d4 newp pinp) hN hi hln fun s7 J7 => ⟨_, _, J7, q6 h6⟩
      | brk =>
        obtain ⟨σ6, H6, S6, q6⟩ := hsp
        exact q6.elim
      | cont =>
        obtain ⟨σ6, H6, S6, q6⟩ := hsp
        exact q6.elim
      | ret u =>
        obtain ⟨v6, σ6, H6, S6, r6, q6⟩ := hsp
        exact q6.elim
  · cases f with
    | next =>
      obtain ⟨σ1, H1, J1, q⟩ := hsp
      exact wpAny_execs_nil ⟨σ1, H1, J1.ofTry okX, q⟩
    | brk =>
      obtain ⟨σ1, H1, J1, q⟩ := hsp
      exact ⟨σ1, H1, J1.ofTry okX, q⟩
    | cont =>
      obtain ⟨σ1, H1, J1, q⟩ := hsp
      exact ⟨σ1, H1, J1.ofTry okX, q⟩
    | ret u =>
      obtain ⟨v, σ1, H1, J1, r, q⟩ := hsp
      exact ⟨v, σ1, H1, J1.ofTry okX, r, q⟩
end
/-! ### what is asked of a kept exception -/
def rIsK (K : PySem.W.Frag) : List V → Hp → VK → Prop := fun xs H Q => ∃ (a D : Addr) (d : Option Addr) (c : V) (u : Value) (b : Bool), xs = [.ref a, c] ∧ H a = some (kxo a (.ref D) d) ∧ (∀ dd, d = some dd → ∃ fs, H dd = some (.xd fs)) ∧ ExcC K D ∧
  ((ClsV c u ∧ PySem.W.kitOne K (.ref D) u = some b) ∨ ∃ (q : Addr) (cs : List V) (us : List Value), c = .ref q ∧ H q = some (.tup cs) ∧ Paired ClsV cs us ∧ PySem.W.kitAny K (.ref D) us = some b) ∧ Q (.bl b) H
theorem kx_inst {X : Cx} {pins : List (Addr × Obj)} {σ : L2.St} {H : Hp} {s : Shared} {a D : Addr} {d : Option Addr} (I : Inv X pins σ H s) (e : H a = some (kxo a (.ref D) d)) (hd : ∀ dd, d = some dd → ∃ fs, H dd = some (.xd fs)) : ∃ ox od, PySem.W.InstAt s.heap a ox D od ∧ (∀ dd, d = some dd → ∃ o, od = some o ∧ s.heap.get? dd = some o) := by
  obtain ⟨oe, vs, g, z, f⟩ := kxo_at I.hok e
  cases d with
  | none =>
    refine ⟨oe, none, ⟨g, z.1, by unfold PySem.W.notCls; rw [f] <;> rfl, by rw [z.2]; trivial⟩, fun dd h => by cases h⟩
  | some dd =>
    obtain ⟨fs, hx⟩ := hd dd rfl
    have hx' : ObjOk X.prog X.w H s.heap dd (.xd fs) := I.hok dd _ hx
    obtain ⟨mA, hns, hr⟩ := hx'
    obtain ⟨od, ho, hl⟩ := lookIn_ns hns
    exact ⟨oe, some od, ⟨g, z.1, by unfold PySem.W.notCls; rw [f] <;> rfl, by rw [z.2]; exact ho⟩, fun d2 h => by cases h; exact ⟨od, rfl, ho⟩⟩
theorem call_isK {X : Cx} : CallR X (.builtin "isinstance") (rIsK X.K) := by
  intro pins s σ H xs us Q I r h
  obtain ⟨a, D, d, c, u, b, rfl, ha, hd, C, hc, q⟩ := h
  obtain ⟨u1, u2, rfl, r1, r2⟩ := vals2 r
  cases (show u1 = Value.ref a from r1)
  obtain ⟨ox, od, J, _⟩ := kx_inst I ha hd
  have Zk : PySem.W.KitX X.K (.ref a) (.ref D) (fun h => PySem.W.InstAt h a ox D od) := PySem.W.kitx_exc (by
    have := C.hd
    obtain ⟨cd, hcd, _⟩ := PySem.W.any_some this
    rw [hcd]; rfl) C.hg C.hk C.hs C.ha C.hn C.ht C.hm
  rcases hc with ⟨k, e⟩ | ⟨tp, cs, ws, rfl, hT, k, e⟩
  · cases k.eq r2
    exact PySem.W.kia_one Zk I.kIn J e (fun z => nomatch z) fun tk => ⟨.bl b, H, I.tok tk, rfl, q⟩
  · cases (show u2 = Value.ref tp from r2)
    obtain ⟨_, its, rv, o, h1, h2, n, h3⟩ := (show ObjOk X.prog X.w H s.heap tp (.tup cs) from I.hok tp _ hT)
    cases ClsV.all k rv
    obtain ⟨oc, od', dt, sl⟩ := o
    simp only at h2 h3
    subst h2 h3
    exact PySem.W.kia_tup Zk I.kIn J h1 e (fun z => nomatch z) fun tk => ⟨.bl b, H, I.tok tk, rfl, q⟩
def rIsi3 (K : PySem.W.Frag) : List V → Hp → VK → Prop := fun xs H Q => rIsi2 K xs H Q ∨ rIsK K xs H Q
theorem call_isi3 {X : Cx} : CallR X (.builtin "isinstance") (rIsi3 X.K) := fun pins s σ H vs us Q I r h => h.elim (fun z => call_isi' pins s σ H vs us Q I r z) fun z => call_isK pins s σ H vs us Q I r z
/-- e.f of a kept exception -/
def zKf (K : PySem.W.Frag) (f : Str) (x : V) (H : Hp) (Q : VK) : Prop := ∃ (a C dd : Addr) (fs : List (Str × V)) (v : V), x = .ref a ∧ H a = some (kxo a (.ref C) (some dd)) ∧ XfC K C ∧ PySem.W.findIn K (.ref C) f = some none ∧ H dd = some (.xd fs) ∧ fs.lookup f = some v ∧ Q v H
def tKf (K : PySem.W.Frag) (te : TE) (f : Str) : TE := fun σ H Q => te σ H fun x H1 => zKf K f x H1 Q
theorem s_kf {K : PySem.W.Frag} {te : TE} {f : Str} {σ : L2.St} {H : Hp} {Q : VK} (h : te σ H fun x H1 => zKf K f x H1 Q) : tKf K te f σ H Q := h
theorem pe_kf {X : Cx} {e : Expr} {te : TE} {pos : Pos} {n : Str} (he : PE X e te) (hb : attributeBase e n X.env (eval e X.env) = eval e X.env := by rfl) : PE X (.Attribute e n pos) (tKf X.K te n) := by
  refine ⟨fun pins s σ H Q I h => ?_⟩
  refine attr_of hb (thn (he.run pins s σ H _ I h) fun u s1 ⟨x, H1, I1, rx, a, C, dd, fs, v, ex, ea, T, hno, ed, l, q⟩ => ?_)
  subst ex
  cases (show u = Value.ref a from rx)
  obtain ⟨oe, vs, g, z, f⟩ := kxo_at I1.hok ea
  have hx' : ObjOk X.prog X.w H1 s1.heap dd (.xd fs) := I1.hok dd _ ed
  obtain ⟨mA, hns, hr⟩ := hx'
  obtain ⟨od, ho, hl⟩ := lookIn_ns hns
  obtain ⟨u, hu, ru⟩ := RelO.some_of (v := v) (o := mA n) (by rw [← l]; exact hr n)
  have J : PySem.W.InstAt s1.heap a oe C (some od) := ⟨g, z.1, by unfold PySem.W.notCls; rw [f] <;> rfl, by rw [z.2]; exact ho⟩
  exact HandSPX.exc_get I1.kIn J T.ga T.gg T.exC (PySem.W.findObj_own T.hdC hno rfl (by rw [hl, hu])) (handed_of ru) ⟨v, H1, I1.tok _, ru, q⟩
/-- a kept exception of a class with fields -/
structure Kept (H : Hp) (a D d : Addr) (fs : List (Str × V)) : Prop where
  k : H a = some (kxo a (.ref D) (some d))
  d : H d = some (.xd fs)
theorem Kept.of {H : Hp} {a D d : Addr} {fs : List (Str × V)} (na : H a = none) (h : H d = some (.xd fs)) : Kept (upd H a (kxo a (.ref D) (some d))) a D d fs := ⟨upd_same, (upd_ne (ne_of_none h na)).trans h⟩
theorem Kept.same {H H' : Hp} {a D d : Addr} {fs : List (Str × V)} (h : Kept H a D d fs) (S : Same H H') : Kept H' a D d fs := ⟨S _ _ h.k, S _ _ h.d⟩
theorem Kept.ne {H : Hp} {a D d p : Addr} {fs : List (Str × V)} {o : HO} (h : Kept H a D d fs) (hp : H p = some o) (n1 : ∀ φ, o ≠ .ext φ) (n2 : ∀ gs, o ≠ .xd gs) : a ≠ p ∧ d ≠ p := ⟨ne_of h.k hp fun z => n1 _ z.symm, ne_of h.d hp fun z => n2 _ z.symm⟩
theorem Kept.but {H H' : Hp} {a D d p : Addr} {fs : List (Str × V)} {o : HO} (h : Kept H a D d fs) (B : But p H H') (hp : H p = some o) (n1 : ∀ φ, o ≠ .ext φ) (n2 : ∀ gs, o ≠ .xd gs) : Kept H' a D d fs := by
  obtain ⟨m1, m2⟩ := h.ne hp n1 n2
  exact ⟨B.rd m1 h.k, B.rd m2 h.d⟩
section
variable {K : PySem.W.Frag} {H : Hp} {Q : VK} {a D d c q : Addr} {fs : List (Str × V)} {b : Bool} {f : Str} {v : V} {cs : List V} {us : List Value}
theorem s_isKo (h : Kept H a D d fs) (C : ExcC K D) (e : PySem.W.kitOne K (.ref D) (.ref c) = some b) (g : Q (.bl b) H) : rIsi3 K [.ref a, .ref c] H Q :=
  .inr ⟨a, D, some d, .ref c, .ref c, b, rfl, h.k, fun dd z => by cases z; exact ⟨_, h.d⟩, C, .inl ⟨.own c, e⟩, g⟩
theorem s_isKv (h : Kept H a D d fs) (C : ExcC K D) (e : PySem.W.kitOne K (.ref D) (.type "ValueError") = some b) (g : Q (.bl b) H) : rIsi3 K [.ref a, .ty "ValueError"] H Q :=
  .inr ⟨a, D, some d, .ty "ValueError", .type "ValueError", b, rfl, h.k, fun dd z => by cases z; exact ⟨_, h.d⟩, C, .inl ⟨.ty _, e⟩, g⟩
theorem s_isKt (h : Kept H a D d fs) (C : ExcC K D) (hq : H q = some (.tup cs)) (k : Paired ClsV cs us) (e : PySem.W.kitAny K (.ref D) us = some b) (g : Q (.bl b) H) : rIsi3 K [.ref a, .ref q] H Q :=
  .inr ⟨a, D, some d, .ref q, .none, b, rfl, h.k, fun dd z => by cases z; exact ⟨_, h.d⟩, C, .inr ⟨q, cs, us, rfl, hq, k, e⟩, g⟩
theorem s_isNo (h : H a = some (kxo a (.ref D) none)) (C : ExcC K D) (e : PySem.W.kitOne K (.ref D) (.ref c) = some b) (g : Q (.bl b) H) : rIsi3 K [.ref a, .ref c] H Q :=
  .inr ⟨a, D, none, .ref c, .ref c, b, rfl, h, fun dd z => (by cases z), C, .inl ⟨.own c, e⟩, g⟩
theorem s_isNv (h : H a = some (kxo a (.ref D) none)) (C : ExcC K D) (e : PySem.W.kitOne K (.ref D) (.type "ValueError") = some b) (g : Q (.bl b) H) : rIsi3 K [.ref a, .ty "ValueError"] H Q :=
  .inr ⟨a, D, none, .ty "ValueError", .type "ValueError", b, rfl, h, fun dd z => (by cases z), C, .inl ⟨.ty _, e⟩, g⟩
theorem s_isNt (h : H a = some (kxo a (.ref D) none)) (C : ExcC K D) (hq : H q = some (.tup cs)) (k : Paired ClsV cs us) (e : PySem.W.kitAny K (.ref D) us = some b) (g : Q (.bl b) H) : rIsi3 K [.ref a, .ref q] H Q :=
  .inr ⟨a, D, none, .ref q, .none, b, rfl, h, fun dd z => (by cases z), C, .inr ⟨q, cs, us, rfl, hq, k, e⟩, g⟩
theorem s_zkf (h : Kept H a D d fs) (X : XfC K D) (n : PySem.W.findIn K (.ref D) f = some none) (l : fs.lookup f = some v) (g : Q v H) : zKf K f (.ref a) H Q := ⟨a, D, d, fs, v, rfl, h.k, X, n, h.d, l, g⟩
theorem kitAny_no {t c : Value} {cs : List Value} {r : Bool} (h : PySem.W.kitOne K t c = some false) (g : PySem.W.kitAny K t cs = some r) : PySem.W.kitAny K t (c :: cs) = some r := kitAny_cons h (fun _ => g) fun z => by cases z
theorem kitAny_yes {t c : Value} {cs : List Value} (h : PySem.W.kitOne K t c = some true) : PySem.W.kitAny K t (c :: cs) = some true := kitAny_cons h (fun z => by cases z) fun _ => rfl
theorem kit_mkV {K : PySem.W.Frag} {S : Addr} (h : PySem.W.subIn K (.ref S) (.type "ValueError") = some true) : PySem.W.kitOne K (.ref S) (.type "ValueError") = some true := by
  unfold PySem.W.kitOne PySem.W.kitCls
  rw [if_neg (by intro z; cases beq_iff_eq.mp z)]
  show (if PySem.W.kitMeta "ValueError" = true then PySem.W.subIn K (.ref S) (.type "ValueError") else none) = some true
  rw [if_pos (by decide +kernel)]
  exact h
theorem kit_mkR {K : PySem.W.Frag} {S C : Addr} {b : Bool} (h1 : PySem.W.isClsIn K C = true) (h2 : PySem.W.typeIn K (.ref C) = some (.type "type")) (h3 : PySem.W.subIn K (.ref S) (.ref C) = some b) (h4 : PySem.W.subIn K (.ref S) (.ref S) = some true) : PySem.W.kitOne K (.ref S) (.ref C) = some b := by
  unfold PySem.W.kitOne PySem.W.kitCls
  by_cases e : (Value.ref S == Value.ref C) = true
  · rw [if_pos e]
    cases Value.ref.inj (beq_iff_eq.mp e)
    rw [h4] at h3
    exact h3
  · rw [if_neg e]
    have e2 : ((PySem.W.clsIn K C).isSome && PySem.W.typeIn K (.ref C) == some (.type "type")) = true := by
      have h1' : (PySem.W.clsIn K C).isSome = true := h1
      rw [h1', h2] <;> rfl
    show (if ((PySem.W.clsIn K C).isSome && PySem.W.typeIn K (.ref C) == some (.type "type")) = true then PySem.W.subIn K (.ref S) (.ref C) else none) = some b
    rw [if_pos e2]
    exact h3
theorem s_isi3 {xs : List V} (h : rIsi2 K xs H Q) : rIsi3 K xs H Q := .inl h
end
theorem s_tryKeep {N b c : L2.St → Hp → Prop} {r : VK} {K : PySem.W.Frag} {σ : L2.St} {H : Hp} {i : Nat} {cc : Value} {tbw : WX → TS} {ts : TS} {W : WX} (h : tbw (wKeep K cc i ts W ⟨N, r, b, c⟩) ⟨N, r, b, c⟩ σ H) : sTryKeep K cc i tbw ts W ⟨N, r, b, c⟩ σ H := h
end Z

namespace My
open PySem Z
open L2 hiding rLen Same Same.refl Same.trans Same.free Same.seq Same.made
variable [TQ]

/-- where the top's things stand -/
structure Adr where
  K : PySem.W.Frag
  mg : Str → Option Value
  t_PUSH : Tok
  t_GET : Tok
  t_SET_codes : Tok
  t_DROP : Tok
  t_JUMP : Tok
  t_UNLESS : Tok
  t_CALL : Tok
  t_BACK : Tok
  t_FAIL : Tok
  t_BREATH : Tok
  t_DO_codes : Tok
  t_PICK : Tok
  t_MOST_FUNCTIONS : Tok
  t_MOST_PARAMS : Tok
  t_MOST_BOXES : Tok
  t_FIRST_DONE_codes : Tok
  t_LAST_DONE : Tok
  t_MOST_PICKED : Tok
  t_SET_kinds : Tok
  t_NEW : Tok
  t_FIGURES : Tok
  t_MOST_FIGURES : Tok
  t_DO_codetexts : Tok
  t_FIRST_DONE_codetexts : Tok
  t_MOST_PUSHED : Tok
  w : World
  a_NUMBERED : Addr
  a_ALONE : Addr
  a_EARLY : Addr
  a_LATE : Addr
  c_ChainError : Addr
  c_NoSheet : Addr
  c_NoText : Addr
  c_NoCode : Addr
  c_NoRow : Addr
  c_NoName : Addr
  f_NoText_init : Addr
  d_NoText_init : FuncData
  f_is_whole : Addr
  d_is_whole : FuncData
  f_are_wholes : Addr
  d_are_wholes : FuncData
  f_fits_op : Addr
  d_fits_op : FuncData
  f_fits_head : Addr
  d_fits_head : FuncData
  f_make_code : Addr
  d_make_code : FuncData
  f_code_of : Addr
  d_code_of : FuncData
  f_word_of : Addr
  d_word_of : FuncData
  f_kind_of : Addr
  d_kind_of : FuncData
  f_is_of : Addr
  d_is_of : FuncData
  f_is_number_of : Addr
  d_is_number_of : FuncData
  f_is_number_word : Addr
  d_is_number_word : FuncData
  f_row_in : Addr
  d_row_in : FuncData
  f_head_in : Addr
  d_head_in : FuncData
  f_read_code : Addr
  d_read_code : FuncData
  f_Lpen : Addr
  d_Lpen : FuncData
  f_Ldraw : Addr
  d_Ldraw : FuncData
  f_Lnumber : Addr
  d_Lnumber : FuncData
  f_Lrow : Addr
  d_Lrow : FuncData
  f_Lcode : Addr
  d_Lcode : FuncData
  f_Lcaught : Addr
  d_Lcaught : FuncData
  f_Lbad_lines : Addr
  d_Lbad_lines : FuncData
  f_Lline_exchanged : Addr
  d_Lline_exchanged : FuncData
  f_Lno_code : Addr
  d_Lno_code : FuncData
  f_law : Addr
  d_law : FuncData
/-- what is known of them -/
structure Top (Z : Adr) : Prop where
  g_PUSH : Z.mg "PUSH" = some (.int 0 Z.t_PUSH)
  g_GET : Z.mg "GET" = some (.int 1 Z.t_GET)
  g_SET_codes : Z.mg "SET_codes" = some (.int 2 Z.t_SET_codes)
  g_DROP : Z.mg "DROP" = some (.int 3 Z.t_DROP)
  g_JUMP : Z.mg "JUMP" = some (.int 4 Z.t_JUMP)
  g_UNLESS : Z.mg "UNLESS" = some (.int 5 Z.t_UNLESS)
  g_CALL : Z.mg "CALL" = some (.int 6 Z.t_CALL)
  g_BACK : Z.mg "BACK" = some (.int 7 Z.t_BACK)
  g_FAIL : Z.mg "FAIL" = some (.int 8 Z.t_FAIL)
  g_BREATH : Z.mg "BREATH" = some (.int 9 Z.t_BREATH)
  g_DO_codes : Z.mg "DO_codes" = some (.int 10 Z.t_DO_codes)
  g_PICK : Z.mg "PICK" = some (.int 11 Z.t_PICK)
  g_MOST_FUNCTIONS : Z.mg "MOST_FUNCTIONS" = some (.int 16 Z.t_MOST_FUNCTIONS)
  g_MOST_PARAMS : Z.mg "MOST_PARAMS" = some (.int 4 Z.t_MOST_PARAMS)
  g_MOST_BOXES : Z.mg "MOST_BOXES" = some (.int 12 Z.t_MOST_BOXES)
  g_FIRST_DONE_codes : Z.mg "FIRST_DONE_codes" = some (.int 8 Z.t_FIRST_DONE_codes)
  g_LAST_DONE : Z.mg "LAST_DONE" = some (.int 19 Z.t_LAST_DONE)
  g_MOST_PICKED : Z.mg "MOST_PICKED" = some (.int 12 Z.t_MOST_PICKED)
  g_SET_kinds : Z.mg "SET_kinds" = some (.int 2 Z.t_SET_kinds)
  g_NEW : Z.mg "NEW" = some (.int 19 Z.t_NEW)
  g_FIGURES : Z.mg "FIGURES" = some (.str "0123456789" Z.t_FIGURES)
  g_MOST_FIGURES : Z.mg "MOST_FIGURES" = some (.int 60 Z.t_MOST_FIGURES)
  g_DO_codetexts : Z.mg "DO_codetexts" = some (.int 10 Z.t_DO_codetexts)
  g_FIRST_DONE_codetexts : Z.mg "FIRST_DONE_codetexts" = some (.int 8 Z.t_FIRST_DONE_codetexts)
  g_MOST_PUSHED : Z.mg "MOST_PUSHED" = some (.int 100 Z.t_MOST_PUSHED)
  g_EARLY : Z.mg "EARLY" = some (.ref Z.a_EARLY)
  s_EARLY : ∀ H, SqT Z.K H Z.a_EARLY ([("set" : Str), ("all" : Str), ("pick" : Str), ("loop" : Str), ("call" : Str), ("fail" : Str), ("add" : Str), ("sub" : Str), ("mul" : Str)].map V.str)
  g_LATE : Z.mg "LATE" = some (.ref Z.a_LATE)
  s_LATE : ∀ H, SqT Z.K H Z.a_LATE ([("quo" : Str), ("rest" : Str), ("less" : Str), ("same" : Str), ("push" : Str), ("at" : Str), ("put" : Str), ("size" : Str), ("new" : Str)].map V.str)
  g_NUMBERED : Z.mg "NUMBERED" = some (.ref Z.a_NUMBERED)
  D_NUMBERED : DctK Z.K Z.w Z.a_NUMBERED [("push", 0), ("get", 1), ("set", 2), ("jump", 4), ("unless", 5), ("call", 6), ("pick", 11)]
  g_ALONE : Z.mg "ALONE" = some (.ref Z.a_ALONE)
  D_ALONE : DctK Z.K Z.w Z.a_ALONE [("drop", 3), ("back", 7), ("fail", 8), ("breath", 9)]
  n_ValueError : Z.mg "ValueError" = none
  n_all : Z.mg "all" = none
  n_bool : Z.mg "bool" = none
  n_enumerate : Z.mg "enumerate" = none
  n_int : Z.mg "int" = none
  n_isinstance : Z.mg "isinstance" = none
  n_len : Z.mg "len" = none
  n_list : Z.mg "list" = none
  n_range : Z.mg "range" = none
  n_str : Z.mg "str" = none
  n_tuple : Z.mg "tuple" = none
  F_NoText_init : Fun Z.K "__init__" "NoText.__init__" st_NoText_init Z.f_NoText_init Z.d_NoText_init
  b_NoText_init : Binds Z.K Z.d_NoText_init ["self", "at"] []
  F_is_whole : Fun Z.K "is_whole" "is_whole" st_is_whole Z.f_is_whole Z.d_is_whole
  m_is_whole : Z.mg "is_whole" = some (.ref Z.f_is_whole)
  b_is_whole : Binds Z.K Z.d_is_whole ["thing"] []
  F_are_wholes : Fun Z.K "are_wholes" "are_wholes" st_are_wholes Z.f_are_wholes Z.d_are_wholes
  m_are_wholes : Z.mg "are_wholes" = some (.ref Z.f_are_wholes)
  b_are_wholes : Binds Z.K Z.d_are_wholes ["things", "many"] []
  F_fits_op : Fun Z.K "fits_op" "fits_op" st_fits_op Z.f_fits_op Z.d_fits_op
  m_fits_op : Z.mg "fits_op" = some (.ref Z.f_fits_op)
  b_fits_op : Binds Z.K Z.d_fits_op ["op", "number", "functions", "rows"] []
  F_fits_head : Fun Z.K "fits_head" "fits_head" st_fits_head Z.f_fits_head Z.d_fits_head
  m_fits_head : Z.mg "fits_head" = some (.ref Z.f_fits_head)
  b_fits_head : Binds Z.K Z.d_fits_head ["head", "at", "rows"] []
  F_make_code : Fun Z.K "make_code" "make_code" st_make_code Z.f_make_code Z.d_make_code
  m_make_code : Z.mg "make_code" = some (.ref Z.f_make_code)
  b_make_code : Binds Z.K Z.d_make_code ["heads", "rows"] []
  F_code_of : Fun Z.K "code_of" "code_of" st_code_of Z.f_code_of Z.d_code_of
  m_code_of : Z.mg "code_of" = some (.ref Z.f_code_of)
  b_code_of : Binds Z.K Z.d_code_of ["heads", "rows"] []
  F_word_of : Fun Z.K "word_of" "word_of" st_word_of Z.f_word_of Z.d_word_of
  m_word_of : Z.mg "word_of" = some (.ref Z.f_word_of)
  b_word_of : Binds Z.K Z.d_word_of ["kind"] []
  F_kind_of : Fun Z.K "kind_of" "kind_of" st_kind_of Z.f_kind_of Z.d_kind_of
  m_kind_of : Z.mg "kind_of" = some (.ref Z.f_kind_of)
  b_kind_of : Binds Z.K Z.d_kind_of ["word"] []
  F_is_of : Fun Z.K "is_of" "is_of" st_is_of Z.f_is_of Z.d_is_of
  m_is_of : Z.mg "is_of" = some (.ref Z.f_is_of)
  b_is_of : Binds Z.K Z.d_is_of ["word", "signs", "most"] []
  F_is_number_of : Fun Z.K "is_number_of" "is_number_of" st_is_number_of Z.f_is_number_of Z.d_is_number_of
  m_is_number_of : Z.mg "is_number_of" = some (.ref Z.f_is_number_of)
  b_is_number_of : Binds Z.K Z.d_is_number_of ["word", "most"] []
  F_is_number_word : Fun Z.K "is_number_word" "is_number_word" st_is_number_word Z.f_is_number_word Z.d_is_number_word
  m_is_number_word : Z.mg "is_number_word" = some (.ref Z.f_is_number_word)
  b_is_number_word : Binds Z.K Z.d_is_number_word ["word"] []
  F_row_in : Fun Z.K "row_in" "row_in" st_row_in Z.f_row_in Z.d_row_in
  m_row_in : Z.mg "row_in" = some (.ref Z.f_row_in)
  b_row_in : Binds Z.K Z.d_row_in ["words"] []
  F_head_in : Fun Z.K "head_in" "head_in" st_head_in Z.f_head_in Z.d_head_in
  m_head_in : Z.mg "head_in" = some (.ref Z.f_head_in)
  b_head_in : Binds Z.K Z.d_head_in ["words"] []
  F_read_code : Fun Z.K "read_code" "read_code" st_read_code Z.f_read_code Z.d_read_code
  m_read_code : Z.mg "read_code" = some (.ref Z.f_read_code)
  b_read_code : Binds Z.K Z.d_read_code ["text"] []
  F_Lpen : Fun Z.K "_law_pen" "_law_pen" st_Lpen Z.f_Lpen Z.d_Lpen
  m_Lpen : Z.mg "_law_pen" = some (.ref Z.f_Lpen)
  b_Lpen : Binds Z.K Z.d_Lpen ["_law_script", "_law_k"] []
  F_Ldraw : Fun Z.K "_law_draw" "_law_draw" st_Ldraw Z.f_Ldraw Z.d_Ldraw
  m_Ldraw : Z.mg "_law_draw" = some (.ref Z.f_Ldraw)
  b_Ldraw : Binds Z.K Z.d_Ldraw ["_law_pen_here", "_law_many"] []
  F_Lnumber : Fun Z.K "_law_number" "_law_number" st_Lnumber Z.f_Lnumber Z.d_Lnumber
  m_Lnumber : Z.mg "_law_number" = some (.ref Z.f_Lnumber)
  b_Lnumber : Binds Z.K Z.d_Lnumber ["_law_pen_here", "_law_greats"] []
  F_Lrow : Fun Z.K "_law_row" "_law_row" st_Lrow Z.f_Lrow Z.d_Lrow
  m_Lrow : Z.mg "_law_row" = some (.ref Z.f_Lrow)
  b_Lrow : Binds Z.K Z.d_Lrow ["_law_pen_here", "_law_many", "_law_rows", "_law_greats"] []
  F_Lcode : Fun Z.K "_law_code" "_law_code" st_Lcode Z.f_Lcode Z.d_Lcode
  m_Lcode : Z.mg "_law_code" = some (.ref Z.f_Lcode)
  b_Lcode : Binds Z.K Z.d_Lcode ["_law_pen_here", "_law_most", "_law_longest", "_law_greats"] []
  F_Lcaught : Fun Z.K "_law_caught" "_law_caught" st_Lcaught Z.f_Lcaught Z.d_Lcaught
  m_Lcaught : Z.mg "_law_caught" = some (.ref Z.f_Lcaught)
  b_Lcaught : Binds Z.K Z.d_Lcaught ["_law_text"] []
  F_Lbad_lines : Fun Z.K "_law_bad_lines" "_law_bad_lines" st_Lbad_lines Z.f_Lbad_lines Z.d_Lbad_lines
  m_Lbad_lines : Z.mg "_law_bad_lines" = some (.ref Z.f_Lbad_lines)
  b_Lbad_lines : Binds Z.K Z.d_Lbad_lines ["_law_is_head"] []
  F_Lline_exchanged : Fun Z.K "_law_line_exchanged" "_law_line_exchanged" st_Lline_exchanged Z.f_Lline_exchanged Z.d_Lline_exchanged
  m_Lline_exchanged : Z.mg "_law_line_exchanged" = some (.ref Z.f_Lline_exchanged)
  b_Lline_exchanged : Binds Z.K Z.d_Lline_exchanged ["_law_pen_here", "_law_lines", "_law_many"] []
  F_Lno_code : Fun Z.K "_law_no_code" "_law_no_code" st_Lno_code Z.f_Lno_code Z.d_Lno_code
  m_Lno_code : Z.mg "_law_no_code" = some (.ref Z.f_Lno_code)
  b_Lno_code : Binds Z.K Z.d_Lno_code ["_law_pen_here", "_law_lines", "_law_many"] []
  F_law : Fun Z.K "law" "law" st_law Z.f_law Z.d_law
  m_law : Z.mg "law" = some (.ref Z.f_law)
  b_law : Binds Z.K Z.d_law ["_law_script"] []
  g_ChainError : Z.mg "ChainError" = some (.ref Z.c_ChainError)
  ri_ChainError : PySem.W.readsIn Z.K Z.c_ChainError (.type "type") = true
  rs_ChainError : PySem.W.specialIn Z.K (.ref Z.c_ChainError) "__getattribute__" = some (some (.builtin "type.__getattribute__"))
  rv_ChainError : PySem.W.findCls Z.K (.ref Z.c_ChainError) (.type "type") "__init__" = some (.val (.builtin "ValueError.__init__"))
  g_NoSheet : Z.mg "NoSheet" = some (.ref Z.c_NoSheet)
  g_NoText : Z.mg "NoText" = some (.ref Z.c_NoText)
  ox_NoText : OexC Z.K Z.c_NoText
  xf_NoText : XfC Z.K Z.c_NoText
  oi_NoText : PySem.W.findIn Z.K (.ref Z.c_NoText) "__init__" = some (some (.ref Z.f_NoText_init))
  ot_NoText : PySem.W.typeIn Z.K (.ref Z.f_NoText_init) = some (.type "function")
  na_NoText_at : PySem.W.findIn Z.K (.ref Z.c_NoText) "at" = some none
  kx_NoText : ExcC Z.K Z.c_NoText
  kv_NoText : PySem.W.kitOne Z.K (.ref Z.c_NoText) (.type "ValueError") = some true
  ki_NoText_NoCode : PySem.W.kitOne Z.K (.ref Z.c_NoText) (.ref Z.c_NoCode) = some false
  ki_NoText_NoName : PySem.W.kitOne Z.K (.ref Z.c_NoText) (.ref Z.c_NoName) = some false
  ki_NoText_NoRow : PySem.W.kitOne Z.K (.ref Z.c_NoText) (.ref Z.c_NoRow) = some false
  ki_NoText_NoSheet : PySem.W.kitOne Z.K (.ref Z.c_NoText) (.ref Z.c_NoSheet) = some false
  ki_NoText_NoText : PySem.W.kitOne Z.K (.ref Z.c_NoText) (.ref Z.c_NoText) = some true
  ex_NoText_ChainError : PySem.W.exmOne Z.K (.ref Z.c_NoText) (.ref Z.c_ChainError) = some true
  g_NoCode : Z.mg "NoCode" = some (.ref Z.c_NoCode)
  oq_NoCode : PySem.W.excIn Z.K Z.c_NoCode [.type "ValueError", .type "Exception", .type "BaseException", .type "object"] "ValueError.__new__" = true
  ok_NoCode : PySem.W.keepIn Z.K (.ref Z.c_NoCode) = true
  ob_NoCode : PySem.W.subIn Z.K (.ref Z.c_NoCode) (.type "BaseException") = some true
  oy_NoCode : PySem.W.typeIn Z.K (.ref Z.c_NoCode) = some (.type "type")
  kx_NoCode : ExcC Z.K Z.c_NoCode
  kv_NoCode : PySem.W.kitOne Z.K (.ref Z.c_NoCode) (.type "ValueError") = some true
  ki_NoCode_NoCode : PySem.W.kitOne Z.K (.ref Z.c_NoCode) (.ref Z.c_NoCode) = some true
  ki_NoCode_NoName : PySem.W.kitOne Z.K (.ref Z.c_NoCode) (.ref Z.c_NoName) = some false
  ki_NoCode_NoRow : PySem.W.kitOne Z.K (.ref Z.c_NoCode) (.ref Z.c_NoRow) = some false
  ki_NoCode_NoSheet : PySem.W.kitOne Z.K (.ref Z.c_NoCode) (.ref Z.c_NoSheet) = some false
  ki_NoCode_NoText : PySem.W.kitOne Z.K (.ref Z.c_NoCode) (.ref Z.c_NoText) = some false
  ex_NoCode_ChainError : PySem.W.exmOne Z.K (.ref Z.c_NoCode) (.ref Z.c_ChainError) = some true
  g_NoRow : Z.mg "NoRow" = some (.ref Z.c_NoRow)
  g_NoName : Z.mg "NoName" = some (.ref Z.c_NoName)
theorem Top.k_all {Z : Adr} (_ : Top Z) : True := trivial
theorem Top.k_NoText_init {Z : Adr} (T : Top Z) : PySem.W.keepIn Z.K (.ref Z.f_NoText_init) = true := T.F_NoText_init.kp
theorem Top.k_is_whole {Z : Adr} (T : Top Z) : PySem.W.keepIn Z.K (.ref Z.f_is_whole) = true := T.F_is_whole.kp
theorem Top.k_are_wholes {Z : Adr} (T : Top Z) : PySem.W.keepIn Z.K (.ref Z.f_are_wholes) = true := T.F_are_wholes.kp
theorem Top.k_fits_op {Z : Adr} (T : Top Z) : PySem.W.keepIn Z.K (.ref Z.f_fits_op) = true := T.F_fits_op.kp
theorem Top.k_fits_head {Z : Adr} (T : Top Z) : PySem.W.keepIn Z.K (.ref Z.f_fits_head) = true := T.F_fits_head.kp
theorem Top.k_make_code {Z : Adr} (T : Top Z) : PySem.W.keepIn Z.K (.ref Z.f_make_code) = true := T.F_make_code.kp
theorem Top.k_code_of {Z : Adr} (T : Top Z) : PySem.W.keepIn Z.K (.ref Z.f_code_of) = true := T.F_code_of.kp
theorem Top.k_word_of {Z : Adr} (T : Top Z) : PySem.W.keepIn Z.K (.ref Z.f_word_of) = true := T.F_word_of.kp
theorem Top.k_kind_of {Z : Adr} (T : Top Z) : PySem.W.keepIn Z.K (.ref Z.f_kind_of) = true := T.F_kind_of.kp
theorem Top.k_is_of {Z : Adr} (T : Top Z) : PySem.W.keepIn Z.K (.ref Z.f_is_of) = true := T.F_is_of.kp
theorem Top.k_is_number_of {Z : Adr} (T : Top Z) : PySem.W.keepIn Z.K (.ref Z.f_is_number_of) = true := T.F_is_number_of.kp
theorem Top.k_is_number_word {Z : Adr} (T : Top Z) : PySem.W.keepIn Z.K (.ref Z.f_is_number_word) = true := T.F_is_number_word.kp
theorem Top.k_row_in {Z : Adr} (T : Top Z) : PySem.W.keepIn Z.K (.ref Z.f_row_in) = true := T.F_row_in.kp
theorem Top.k_head_in {Z : Adr} (T : Top Z) : PySem.W.keepIn Z.K (.ref Z.f_head_in) = true := T.F_head_in.kp
theorem Top.k_read_code {Z : Adr} (T : Top Z) : PySem.W.keepIn Z.K (.ref Z.f_read_code) = true := T.F_read_code.kp
theorem Top.k_Lpen {Z : Adr} (T : Top Z) : PySem.W.keepIn Z.K (.ref Z.f_Lpen) = true := T.F_Lpen.kp
theorem Top.k_Ldraw {Z : Adr} (T : Top Z) : PySem.W.keepIn Z.K (.ref Z.f_Ldraw) = true := T.F_Ldraw.kp
theorem Top.k_Lnumber {Z : Adr} (T : Top Z) : PySem.W.keepIn Z.K (.ref Z.f_Lnumber) = true := T.F_Lnumber.kp
theorem Top.k_Lrow {Z : Adr} (T : Top Z) : PySem.W.keepIn Z.K (.ref Z.f_Lrow) = true := T.F_Lrow.kp
theorem Top.k_Lcode {Z : Adr} (T : Top Z) : PySem.W.keepIn Z.K (.ref Z.f_Lcode) = true := T.F_Lcode.kp
theorem Top.k_Lcaught {Z : Adr} (T : Top Z) : PySem.W.keepIn Z.K (.ref Z.f_Lcaught) = true := T.F_Lcaught.kp
theorem Top.k_Lbad_lines {Z : Adr} (T : Top Z) : PySem.W.keepIn Z.K (.ref Z.f_Lbad_lines) = true := T.F_Lbad_lines.kp
theorem Top.k_Lline_exchanged {Z : Adr} (T : Top Z) : PySem.W.keepIn Z.K (.ref Z.f_Lline_exchanged) = true := T.F_Lline_exchanged.kp
theorem Top.k_Lno_code {Z : Adr} (T : Top Z) : PySem.W.keepIn Z.K (.ref Z.f_Lno_code) = true := T.F_Lno_code.kp
theorem Top.k_law {Z : Adr} (T : Top Z) : PySem.W.keepIn Z.K (.ref Z.f_law) = true := T.F_law.kp
/-! ### nodes as trees -/
inductive Nd where
  | mk (kind place : Int) (nums : List Int) (parts : List Nd)
def Nd.kind : Nd → Int
  | .mk k _ _ _ => k
def Nd.place : Nd → Int
  | .mk _ p _ _ => p
def Nd.nums : Nd → List Int
  | .mk _ _ ns _ => ns
def Nd.parts : Nd → List Nd
  | .mk _ _ _ ps => ps
mutual
/-- a node as it lies: tuples all through -/
def NodeAt (H : Hp) : Nd → V → Prop
  | .mk k p ns ps, v => ∃ (t tn tp : Addr) (vs : List V), v = .ref t ∧ H t = some (.tup [.int k, .int p, .ref tn, .ref tp]) ∧ H tn = some (.tup (ns.map V.int)) ∧ H tp = some (.tup vs) ∧ NodesAt H ps vs
def NodesAt (H : Hp) : List Nd → List V → Prop
  | [], vs => vs = []
  | n :: ns, vs => ∃ v r, vs = v :: r ∧ NodeAt H n v ∧ NodesAt H ns r
end
mutual
theorem NodeAt.mono {H H' : Hp} (S : TupS H H') : ∀ {n : Nd} {v : V}, NodeAt H n v → NodeAt H' n v
  | .mk _ _ _ _, _, ⟨t, tn, tp, vs, e, h1, h2, h3, h4⟩ => ⟨t, tn, tp, vs, e, S _ _ h1, S _ _ h2, S _ _ h3, NodesAt.mono S h4⟩
theorem NodesAt.mono {H H' : Hp} (S : TupS H H') : ∀ {ns : List Nd} {vs : List V}, NodesAt H ns vs → NodesAt H' ns vs
  | [], _, h => h
  | _ :: _, _, ⟨v, r, e, h1, h2⟩ => ⟨v, r, e, NodeAt.mono S h1, NodesAt.mono S h2⟩
end
theorem NodesAt.len {H : Hp} : ∀ {ns : List Nd} {vs : List V}, NodesAt H ns vs → vs.length = ns.length
  | [], _, h => by rw [show _ = [] from h]; rfl
  | _ :: _, _, ⟨v, r, e, _, h2⟩ => by rw [e, List.length_cons, List.length_cons, NodesAt.len h2]
theorem NodesAt.get {H : Hp} : ∀ {ns : List Nd} {vs : List V} {i : Nat} {v : V}, NodesAt H ns vs → vs[i]? = some v → ∃ n, ns[i]? = some n ∧ NodeAt H n v
  | [], _, _, _, h, e => by rw [show _ = [] from h] at e; simp at e
  | n :: _, _, 0, _, ⟨v, r, e0, h1, h2⟩, e => by rw [e0] at e; cases e; exact ⟨n, rfl, h1⟩
  | _ :: ns, _, i + 1, _, ⟨v, r, e0, h1, h2⟩, e => by
    rw [e0] at e
    obtain ⟨n, en, hn⟩ := NodesAt.get (ns := ns) (i := i) h2 (by simpa using e)
    exact ⟨n, by simpa using en, hn⟩
theorem NodesAt.app {H : Hp} : ∀ {ns : List Nd} {vs : List V} {n : Nd} {v : V}, NodesAt H ns vs → NodeAt H n v → NodesAt H (ns ++ [n]) (vs ++ [v])
  | [], _, n, v, h, hn => by rw [show _ = [] from h]; exact ⟨v, [], rfl, hn, rfl⟩
  | _ :: _, _, n, v, ⟨w, r, e, h1, h2⟩, hn => by rw [e]; exact ⟨w, r ++ [v], rfl, h1, NodesAt.app h2 hn⟩

/-! ### how a sheet is read -/
abbrev Rz (α : Type) := Except (Int × Str) α
def bindR {α β : Type} (x : Rz α) (f : α → Rz β) : Rz β := match x with
  | .ok a => f a
  | .error e => .error e
theorem bindR_ok {α β : Type} {x : Rz α} {f : α → Rz β} {b : β} (h : bindR x f = .ok b) : ∃ a, x = .ok a ∧ f a = .ok b := by
  cases x with
  | ok a => exact ⟨a, rfl, h⟩
  | error e => cases h
theorem bindR_of {α β : Type} {x : Rz α} {f : α → Rz β} {a : α} (h : x = .ok a) : bindR x f = f a := by rw [h]; rfl
def dueP (xs : List Int) (k : Nat) : Rz Int := match xs[k]? with
  | none => .error (k, "end")
  | some v => .ok v
def withinP (xs : List Int) (k : Nat) (lo hi : Int) : Rz Int := bindR (dueP xs k) fun v => if lo ≤ v ∧ v ≤ hi then .ok v else .error (k, "range")
theorem dueP_ok {xs : List Int} {k : Nat} {v : Int} (h : dueP xs k = .ok v) : xs[k]? = some v := by
  unfold dueP at h
  split at h
  · cases h
  · cases h; assumption
theorem dueP_of {xs : List Int} {k : Nat} {v : Int} (h : xs[k]? = some v) : dueP xs k = .ok v := by unfold dueP; rw [h]
theorem withinP_ok {xs : List Int} {k : Nat} {lo hi v : Int} (h : withinP xs k lo hi = .ok v) : xs[k]? = some v ∧ lo ≤ v ∧ v ≤ hi := by
  obtain ⟨a, h1, h2⟩ := bindR_ok h
  split at h2
  · cases h2; exact ⟨dueP_ok h1, by assumption⟩
  · cases h2
theorem withinP_of {xs : List Int} {k : Nat} {lo hi v : Int} (h : xs[k]? = some v) (h1 : lo ≤ v) (h2 : v ≤ hi) : withinP xs k lo hi = .ok v := by
  unfold withinP
  rw [bindR_of (dueP_of h), if_pos ⟨h1, h2⟩]
def manyP (i : Int) : Int := if i = 19 then 0 else if i = 7 ∨ i = 18 then 1 else if i = 17 then 3 else 2
/-- a node's own numbers, how many parts it has, the place behind -/
def ownP (xs : List Int) (hs : List (Int × Int)) (bx kind : Int) (k : Nat) : Rz (List Int × Int × Nat) :=
  if kind = 0 then bindR (dueP xs k) fun v => .ok ([v], 0, k + 1)
  else if kind = 1 then bindR (withinP xs k 0 (bx - 1)) fun v => .ok ([v], 0, k + 1)
  else if kind = 2 then bindR (withinP xs k 0 (bx - 1)) fun v => .ok ([v], 1, k + 1)
  else if kind = 3 then bindR (withinP xs k 1 12) fun v => .ok ([v], v, k + 1)
  else if kind = 4 then bindR (withinP xs k 2 12) fun v => .ok ([v], v + 1, k + 1)
  else if kind = 6 then bindR (withinP xs k 0 (hs.length - 1)) fun v => .ok ([v], (hs.getD v.toNat (0, 0)).1, k + 1)
  else if kind = 5 then .ok ([], 2, k)
  else .ok ([], manyP kind, k)
def partsP (f : Nat → Rz (Nd × Nat)) : Nat → Nat → Rz (List Nd × Nat)
  | 0, k => .ok ([], k)
  | m + 1, k => bindR (partsP f m k) fun a => bindR (f a.2) fun b => .ok (a.1 ++ [b.1], b.2)
theorem partsP_pre {f : Nat → Rz (Nd × Nat)} {k : Nat} {i : Nat} : ∀ {m : Nat} {r : List Nd × Nat}, partsP f m k = .ok r → i ≤ m → ∃ r', partsP f i k = .ok r'
  | 0, r, h, hi => by
    cases Nat.le_zero.mp hi
    exact ⟨r, h⟩
  | m + 1, r, h, hi => by
    by_cases e : i = m + 1
    · subst e; exact ⟨r, h⟩
    · obtain ⟨a, h1, _⟩ := bindR_ok h
      exact partsP_pre h1 (by omega)
theorem partsP_step {f : Nat → Rz (Nd × Nat)} {k i : Nat} {r r' : List Nd × Nat} (h : partsP f (i + 1) k = .ok r) (h' : partsP f i k = .ok r') : ∃ b, f r'.2 = .ok b ∧ r = (r'.1 ++ [b.1], b.2) := by
  obtain ⟨a, h1, h2⟩ := bindR_ok h
  rw [h'] at h1
  cases h1
  obtain ⟨b, h3, h4⟩ := bindR_ok h2
  cases h4
  exact ⟨b, h3, rfl⟩
theorem partsP_len {f : Nat → Rz (Nd × Nat)} {k : Nat} : ∀ {m : Nat} {r : List Nd × Nat}, partsP f m k = .ok r → r.1.length = m
  | 0, r, h => by cases h; rfl
  | m + 1, r, h => by
    obtain ⟨a, h1, h2⟩ := bindR_ok h
    obtain ⟨b, h3, h4⟩ := bindR_ok h2
    cases h4
    rw [List.length_append, partsP_len h1]
    rfl
/-- a node: fuel is 11 - deep -/
def nodeP (xs : List Int) (hs : List (Int × Int)) (bx : Int) : Nat → Nat → Rz (Nd × Nat)
  | 0, k => .error (k, "deep")
  | f + 1, k => bindR (withinP xs k 0 19) fun kind => bindR (ownP xs hs bx kind (k + 1)) fun o => bindR (partsP (nodeP xs hs bx f) o.2.1.toNat o.2.2) fun p => .ok (.mk kind k o.1 p.1, p.2)
theorem nodeP_ok {xs : List Int} {hs : List (Int × Int)} {bx : Int} {f k : Nat} {r : Nd × Nat} (h : nodeP xs hs bx (f + 1) k = .ok r) : ∃ kind o p, xs[k]? = some kind ∧ 0 ≤ kind ∧ kind ≤ 19 ∧ ownP xs hs bx kind (k + 1) = .ok o ∧
    partsP (nodeP xs hs bx f) o.2.1.toNat o.2.2 = .ok p ∧ r = (.mk kind k o.1 p.1, p.2) := by
  unfold nodeP at h
  obtain ⟨kind, h1, h2⟩ := bindR_ok h
  obtain ⟨o, h3, h4⟩ := bindR_ok h2
  obtain ⟨p, h5, h6⟩ := bindR_ok h4
  cases h6
  obtain ⟨a, b, c⟩ := withinP_ok h1
  exact ⟨kind, o, p, a, b, c, h3, h5, rfl⟩
def headsL (xs : List Int) : Nat → Rz (List (Int × Int))
  | 0 => .ok []
  | i + 1 => bindR (headsL xs i) fun hs => bindR (withinP xs (1 + 2 * i) 0 (if 0 < i then 4 else 0)) fun p => bindR (withinP xs (2 + 2 * i) p 12) fun b => .ok (hs ++ [(p, b)])
def headsP (xs : List Int) : Rz (List (Int × Int)) := bindR (withinP xs 0 1 16) fun n => headsL xs n.toNat
theorem headsL_pre {xs : List Int} {i : Nat} : ∀ {m : Nat} {r : List (Int × Int)}, headsL xs m = .ok r → i ≤ m → ∃ r', headsL xs i = .ok r'
  | 0, r, h, hi => by
    cases Nat.le_zero.mp hi
    exact ⟨r, h⟩
  | m + 1, r, h, hi => by
    by_cases e : i = m + 1
    · subst e; exact ⟨r, h⟩
    · obtain ⟨a, h1, _⟩ := bindR_ok h
      exact headsL_pre h1 (by omega)
theorem headsL_step {xs : List Int} {i : Nat} {r r' : List (Int × Int)} (h : headsL xs (i + 1) = .ok r) (h' : headsL xs i = .ok r') : ∃ p b, withinP xs (1 + 2 * i) 0 (if 0 < i then 4 else 0) = .ok p ∧ withinP xs (2 + 2 * i) p 12 = .ok b ∧ r = r' ++ [(p, b)] := by
  obtain ⟨a, h1, h2⟩ := bindR_ok h
  rw [h'] at h1
  cases h1
  obtain ⟨p, h3, h4⟩ := bindR_ok h2
  obtain ⟨b, h5, h6⟩ := bindR_ok h4
  cases h6
  exact ⟨p, b, h3, h5, rfl⟩
theorem headsL_len {xs : List Int} : ∀ {m : Nat} {r : List (Int × Int)}, headsL xs m = .ok r → r.length = m
  | 0, r, h => by cases h; rfl
  | m + 1, r, h => by
    obtain ⟨a, h1, h2⟩ := bindR_ok h
    obtain ⟨p, h3, h4⟩ := bindR_ok h2
    obtain ⟨b, h5, h6⟩ := bindR_ok h4
    cases h6
    rw [List.length_append, headsL_len h1]
    rfl
theorem headsP_ok {xs : List Int} {hs : List (Int × Int)} (h : headsP xs = .ok hs) : 1 ≤ hs.length ∧ hs.length ≤ 16 ∧ xs[0]? = some (hs.length : Int) ∧ headsL xs hs.length = .ok hs := by
  obtain ⟨n, h1, h2⟩ := bindR_ok h
  obtain ⟨a, b, c⟩ := withinP_ok h1
  have e := headsL_len h2
  have e2 : n = (hs.length : Int) := by rw [e]; omega
  refine ⟨by omega, by omega, by rw [← e2]; exact a, by rw [e]; exact h2⟩
def bodiesP (xs : List Int) (hs : List (Int × Int)) : Nat → Nat → Rz (List Nd × Nat)
  | 0, k => .ok ([], k)
  | i + 1, k => bindR (bodiesP xs hs i k) fun a => bindR (nodeP xs hs (hs.getD i (0, 0)).2 10 a.2) fun b => .ok (a.1 ++ [b.1], b.2)
theorem bodiesP_pre {xs : List Int} {hs : List (Int × Int)} {k i : Nat} : ∀ {m : Nat} {r : List Nd × Nat}, bodiesP xs hs m k = .ok r → i ≤ m → ∃ r', bodiesP xs hs i k = .ok r'
  | 0, r, h, hi => by
    cases Nat.le_zero.mp hi
    exact ⟨r, h⟩
  | m + 1, r, h, hi => by
    by_cases e : i = m + 1
    · subst e; exact ⟨r, h⟩
    · obtain ⟨a, h1, _⟩ := bindR_ok h
      exact bodiesP_pre h1 (by omega)
theorem bodiesP_step {xs : List Int} {hs : List (Int × Int)} {k i : Nat} {r r' : List Nd × Nat} (h : bodiesP xs hs (i + 1) k = .ok r) (h' : bodiesP xs hs i k = .ok r') : ∃ b, nodeP xs hs (hs.getD i (0, 0)).2 10 r'.2 = .ok b ∧ r = (r'.1 ++ [b.1], b.2) := by
  obtain ⟨a, h1, h2⟩ := bindR_ok h
  rw [h'] at h1
  cases h1
  obtain ⟨b, h3, h4⟩ := bindR_ok h2
  cases h4
  exact ⟨b, h3, rfl⟩
theorem bodiesP_len {xs : List Int} {hs : List (Int × Int)} {k : Nat} : ∀ {m : Nat} {r : List Nd × Nat}, bodiesP xs hs m k = .ok r → r.1.length = m
  | 0, r, h => by cases h; rfl
  | m + 1, r, h => by
    obtain ⟨a, h1, h2⟩ := bindR_ok h
    obtain ⟨b, h3, h4⟩ := bindR_ok h2
    cases h4
    rw [List.length_append, bodiesP_len h1]
    rfl
/-- the functions of a sheet: heads and bodies -/
def funsP (xs : List Int) : Rz (List (Int × Int) × List Nd) := bindR (headsP xs) fun hs => bindR (bodiesP xs hs hs.length (1 + 2 * hs.length)) fun a => if a.2 < xs.length then .error (a.2, "over") else .ok (hs, a.1)
theorem funsP_ok {xs : List Int} {hs : List (Int × Int)} {bs : List Nd} (h : funsP xs = .ok (hs, bs)) : ∃ k, headsP xs = .ok hs ∧ bodiesP xs hs hs.length (1 + 2 * hs.length) = .ok (bs, k) ∧ ¬ k < xs.length := by
  obtain ⟨a, h1, h2⟩ := bindR_ok h
  obtain ⟨b, h3, h4⟩ := bindR_ok h2
  split at h4
  · cases h4
  · rename_i c
    cases h4
    exact ⟨b.2, h1, h3, c⟩
theorem headsL_all {xs : List Int} : ∀ {m : Nat} {r : List (Int × Int)}, headsL xs m = .ok r → ∀ h ∈ r, 0 ≤ h.1 ∧ h.1 ≤ 4 ∧ h.1 ≤ h.2 ∧ h.2 ≤ 12
  | 0, r, h => by cases h; intro x hx; cases hx
  | m + 1, r, h => by
    obtain ⟨a, h1, h2⟩ := bindR_ok h
    obtain ⟨p, h3, h4⟩ := bindR_ok h2
    obtain ⟨b, h5, h6⟩ := bindR_ok h4
    cases h6
    intro x hx
    rcases List.mem_append.mp hx with z | z
    · exact headsL_all h1 x z
    · rw [List.mem_singleton.mp z]
      have a1 := (withinP_ok h3).2
      have a2 := (withinP_ok h5).2
      refine ⟨a1.1, ?_, a2.1, a2.2⟩
      have := a1.2
      split at this <;> omega
theorem ownP_most {xs : List Int} {hs : List (Int × Int)} {bx kind : Int} {k : Nat} {o : List Int × Int × Nat} (hB : ∀ h ∈ hs, 0 ≤ h.1 ∧ h.1 ≤ 12) (eo : ownP xs hs bx kind k = .ok o) : 0 ≤ o.2.1 ∧ o.2.1 ≤ 13 := by
  unfold ownP at eo
  split at eo
  · obtain ⟨v, g1, g2⟩ := bindR_ok eo; cases g2; exact ⟨by show (0 : Int) ≤ 0; omega, by show (0 : Int) ≤ 13; omega⟩
  split at eo
  · obtain ⟨v, g1, g2⟩ := bindR_ok eo; cases g2; exact ⟨by show (0 : Int) ≤ 0; omega, by show (0 : Int) ≤ 13; omega⟩
  split at eo
  · obtain ⟨v, g1, g2⟩ := bindR_ok eo; cases g2; exact ⟨by show (0 : Int) ≤ 1; omega, by show (1 : Int) ≤ 13; omega⟩
  split at eo
  · obtain ⟨v, g1, g2⟩ := bindR_ok eo
    have w := (withinP_ok g1).2
    cases g2; exact ⟨by show (0 : Int) ≤ v; omega, by show v ≤ 13; omega⟩
  split at eo
  · obtain ⟨v, g1, g2⟩ := bindR_ok eo
    have w := (withinP_ok g1).2
    cases g2; exact ⟨by show (0 : Int) ≤ v + 1; omega, by show v + 1 ≤ 13; omega⟩
  split at eo
  · obtain ⟨v, g1, g2⟩ := bindR_ok eo
    have w := (withinP_ok g1).2
    cases g2
    have hv : v.toNat < hs.length := by omega
    have := hB _ (List.getElem_mem hv)
    have e : (hs.getD v.toNat (0, 0)).1 = hs[v.toNat].1 := by rw [List.getD_eq_getElem?_getD, List.getElem?_eq_getElem hv]; rfl
    show 0 ≤ (hs.getD v.toNat (0, 0)).1 ∧ (hs.getD v.toNat (0, 0)).1 ≤ 13
    rw [e]
    omega
  split at eo
  · cases eo; exact ⟨by show (0 : Int) ≤ 2; omega, by show (2 : Int) ≤ 13; omega⟩
  · cases eo
    show 0 ≤ manyP kind ∧ manyP kind ≤ 13
    unfold manyP
    repeat' split
    all_goals omega
/-! ### how places go on -/
theorem ownP_le {xs : List Int} {hs : List (Int × Int)} {bx kind : Int} {k : Nat} {o : List Int × Int × Nat} (h : ownP xs hs bx kind k = .ok o) : o.2.2 = k + o.1.length ∧ o.2.2 ≤ max k xs.length := by
  have due : ∀ {v : Int}, dueP xs k = .ok v → k + 1 ≤ xs.length := fun h => (List.getElem?_eq_some_iff.mp (dueP_ok h)).1
  have wit : ∀ {a b v : Int}, withinP xs k a b = .ok v → k + 1 ≤ xs.length := fun h => (List.getElem?_eq_some_iff.mp (withinP_ok h).1).1
  unfold ownP at h
  repeat' split at h
  all_goals first
    | (obtain ⟨v, h1, h2⟩ := bindR_ok h; cases h2; first | exact ⟨rfl, Nat.le_trans (due h1) (Nat.le_max_right _ _)⟩ | exact ⟨rfl, Nat.le_trans (wit h1) (Nat.le_max_right _ _)⟩)
    | (cases h; exact ⟨rfl, Nat.le_max_left _ _⟩)
theorem partsP_le {xs : List Int} {f : Nat → Rz (Nd × Nat)} (hf : ∀ k r, f k = .ok r → k < r.2 ∧ r.2 ≤ xs.length) {k : Nat} : ∀ {m : Nat} {r : List Nd × Nat}, partsP f m k = .ok r → k ≤ r.2 ∧ (k ≤ xs.length → r.2 ≤ xs.length)
  | 0, r, h => by cases h; exact ⟨Nat.le_refl _, fun z => z⟩
  | m + 1, r, h => by
    obtain ⟨a, h1, h2⟩ := bindR_ok h
    obtain ⟨b, h3, h4⟩ := bindR_ok h2
    cases h4
    have x := partsP_le hf h1
    have y := hf _ _ h3
    exact ⟨by show k ≤ b.2; omega, fun _ => y.2⟩
theorem nodeP_le {xs : List Int} {hs : List (Int × Int)} {bx : Int} : ∀ {f k : Nat} {r : Nd × Nat}, nodeP xs hs bx f k = .ok r → k < r.2 ∧ r.2 ≤ xs.length
  | 0, k, r, h => by unfold nodeP at h; cases h
  | f + 1, k, r, h => by
    obtain ⟨kind, o, p, h1, h2, h3, h4, h5, rfl⟩ := nodeP_ok h
    have x := ownP_le h4
    have y := partsP_le (xs := xs) (fun k r => nodeP_le (f := f) (k := k) (r := r)) h5
    have z := (List.getElem?_eq_some_iff.mp h1).1
    show k < p.2 ∧ p.2 ≤ xs.length
    have := y.2 (by omega)
    omega
theorem bodiesP_le {xs : List Int} {hs : List (Int × Int)} {k : Nat} : ∀ {m : Nat} {r : List Nd × Nat}, bodiesP xs hs m k = .ok r → k ≤ r.2 ∧ (k ≤ xs.length → r.2 ≤ xs.length)
  | 0, r, h => by cases h; exact ⟨Nat.le_refl _, fun z => z⟩
  | m + 1, r, h => by
    obtain ⟨a, h1, h2⟩ := bindR_ok h
    obtain ⟨b, h3, h4⟩ := bindR_ok h2
    cases h4
    have x := bodiesP_le h1
    have y := nodeP_le h3
    exact ⟨by show k ≤ b.2; omega, fun _ => y.2⟩
theorem funsP_len {xs : List Int} {hs : List (Int × Int)} {bs : List Nd} {k : Nat} (h1 : headsP xs = .ok hs) (h2 : bodiesP xs hs hs.length (1 + 2 * hs.length) = .ok (bs, k)) : k ≤ xs.length := by
  obtain ⟨n1, n2, e0, eL⟩ := headsP_ok h1
  obtain ⟨i, hi⟩ : ∃ i, hs.length = i + 1 := ⟨hs.length - 1, by omega⟩
  rw [hi] at h2
  obtain ⟨r', h'⟩ := bodiesP_pre h2 (i := i) (by omega)
  obtain ⟨b, h3, e⟩ := bodiesP_step h2 h'
  cases e
  exact (nodeP_le h3).2
/-- how deep a node is -/
theorem nodeP_dep {xs : List Int} {hs : List (Int × Int)} {bx : Int} : ∀ {f k : Nat} {r : Nd × Nat}, nodeP xs hs bx f k = .ok r → 1 ≤ f
  | 0, k, r, h => by unfold nodeP at h; cases h
  | f + 1, _, _, _ => by omega
theorem ownP_cut {xs : List Int} {hs : List (Int × Int)} {bx kind : Int} {k : Nat} {o : List Int × Int × Nat} (h : ownP xs hs bx kind k = .ok o) : (xs.drop k).take o.1.length = o.1 ∧ o.1.length ≤ 1 := by
  have due : ∀ {v : Int}, xs[k]? = some v → (xs.drop k).take 1 = [v] := fun h => by
    have hk := (List.getElem?_eq_some_iff.mp h)
    rw [List.drop_eq_getElem_cons hk.1, hk.2]; rfl
  unfold ownP at h
  repeat' split at h
  all_goals first
    | (obtain ⟨v, h1, h2⟩ := bindR_ok h; cases h2; first | exact ⟨due (dueP_ok h1), Nat.le_refl _⟩ | exact ⟨due (withinP_ok h1).1, Nat.le_refl _⟩)
    | (cases h; exact ⟨rfl, Nat.zero_le _⟩)
/-- where a head stands -/
theorem heads_at {xs : List Int} : ∀ {m : Nat} {r : List (Int × Int)} {i : Nat} {h : Int × Int}, headsL xs m = .ok r → r[i]? = some h → xs[1 + 2 * i]? = some h.1 ∧ xs[2 + 2 * i]? = some h.2
  | 0, r, _, _, e, hi => by cases e; simp at hi
  | m + 1, r, i, h, e, hi => by
    obtain ⟨a, h1⟩ := headsL_pre e (i := m) (by omega)
    obtain ⟨p, b, h3, h4, rfl⟩ := headsL_step e h1
    have len := headsL_len h1
    by_cases c : i < m
    · rw [List.getElem?_append_left (by omega)] at hi
      exact heads_at h1 hi
    · rw [List.getElem?_append_right (by omega)] at hi
      have : i - a.length = 0 := by
        have := (List.getElem?_eq_some_iff.mp hi).1
        simp at this
        omega
      rw [this] at hi
      cases hi
      have : i = m := by omega
      subst this
      exact ⟨(withinP_ok h3).1, (withinP_ok h4).1⟩
/-! ### in the heap -/
/-- pairs as they lie -/
def PairsAt (H : Hp) : List (Int × Int) → List V → Prop
  | [], vs => vs = []
  | h :: hs, vs => ∃ t r, vs = .ref t :: r ∧ H t = some (.tup [.int h.1, .int h.2]) ∧ PairsAt H hs r
theorem PairsAt.mono {H H' : Hp} (S : TupS H H') : ∀ {hs : List (Int × Int)} {vs : List V}, PairsAt H hs vs → PairsAt H' hs vs
  | [], _, h => h
  | _ :: _, _, ⟨t, r, e, h1, h2⟩ => ⟨t, r, e, S _ _ h1, PairsAt.mono S h2⟩
theorem PairsAt.len {H : Hp} : ∀ {hs : List (Int × Int)} {vs : List V}, PairsAt H hs vs → vs.length = hs.length
  | [], _, h => by rw [show _ = [] from h]; rfl
  | _ :: _, _, ⟨t, r, e, _, h2⟩ => by rw [e, List.length_cons, List.length_cons, PairsAt.len h2]
theorem PairsAt.get {H : Hp} : ∀ {hs : List (Int × Int)} {vs : List V} {i : Nat} {h : Int × Int}, PairsAt H hs vs → hs[i]? = some h → ∃ t, vs[i]? = some (.ref t) ∧ H t = some (.tup [.int h.1, .int h.2])
  | [], _, _, _, _, e => by simp at e
  | _ :: _, _, 0, _, ⟨t, r, e0, h1, _⟩, e => by cases e; exact ⟨t, by rw [e0]; rfl, h1⟩
  | _ :: hs, _, i + 1, h, ⟨t, r, e0, _, h2⟩, e => by
    obtain ⟨t', a, b⟩ := PairsAt.get (hs := hs) (i := i) h2 (by simpa using e)
    exact ⟨t', by rw [e0]; simpa using a, b⟩
theorem PairsAt.app {H : Hp} : ∀ {hs : List (Int × Int)} {vs : List V} {h : Int × Int} {t : Addr}, PairsAt H hs vs → H t = some (.tup [.int h.1, .int h.2]) → PairsAt H (hs ++ [h]) (vs ++ [.ref t])
  | [], _, h, t, e, ht => by rw [show _ = [] from e]; exact ⟨t, [], rfl, ht, rfl⟩
  | _ :: _, _, h, t, ⟨u, r, e, h1, h2⟩, ht => by rw [e]; exact ⟨u, r ++ [.ref t], rfl, h1, PairsAt.app h2 ht⟩
/-- functions as they lie -/
def FunsAt (H : Hp) : List (Int × Int) → List Nd → List V → Prop
  | [], [], vs => vs = []
  | h :: hs, b :: bs, vs => ∃ t vb r, vs = .ref t :: r ∧ H t = some (.tup [.int h.1, .int h.2, vb]) ∧ NodeAt H b vb ∧ FunsAt H hs bs r
  | _, _, _ => False
theorem FunsAt.mono {H H' : Hp} (S : TupS H H') : ∀ {hs : List (Int × Int)} {bs : List Nd} {vs : List V}, FunsAt H hs bs vs → FunsAt H' hs bs vs
  | [], [], _, h => h
  | _ :: _, _ :: _, _, ⟨t, vb, r, e, h1, h2, h3⟩ => ⟨t, vb, r, e, S _ _ h1, h2.mono S, FunsAt.mono S h3⟩
theorem FunsAt.len {H : Hp} : ∀ {hs : List (Int × Int)} {bs : List Nd} {vs : List V}, FunsAt H hs bs vs → vs.length = hs.length ∧ bs.length = hs.length
  | [], [], _, h => by rw [show _ = [] from h]; exact ⟨rfl, rfl⟩
  | _ :: _, _ :: _, _, ⟨t, vb, r, e, _, _, h3⟩ => by rw [e, List.length_cons, List.length_cons, List.length_cons, (FunsAt.len h3).1, (FunsAt.len h3).2]; exact ⟨rfl, rfl⟩
theorem FunsAt.get {H : Hp} : ∀ {hs : List (Int × Int)} {bs : List Nd} {vs : List V} {i : Nat} {v : V}, FunsAt H hs bs vs → vs[i]? = some v → ∃ t vb h b, v = .ref t ∧ hs[i]? = some h ∧ bs[i]? = some b ∧ H t = some (.tup [.int h.1, .int h.2, vb]) ∧ NodeAt H b vb
  | [], [], _, _, _, h, e => by rw [show _ = [] from h] at e; simp at e
  | h :: _, b :: _, _, 0, _, ⟨t, vb, r, e0, h1, h2, _⟩, e => by rw [e0] at e; cases e; exact ⟨t, vb, h, b, rfl, rfl, rfl, h1, h2⟩
  | _ :: hs, _ :: bs, _, i + 1, _, ⟨t, vb, r, e0, _, _, h3⟩, e => by
    rw [e0] at e
    obtain ⟨t', vb', h', b', a1, a2, a3, a4⟩ := FunsAt.get (hs := hs) (bs := bs) (i := i) h3 (by simpa using e)
    exact ⟨t', vb', h', b', a1, by simpa using a2, by simpa using a3, a4⟩
theorem FunsAt.app {H : Hp} : ∀ {hs : List (Int × Int)} {bs : List Nd} {vs : List V} {h : Int × Int} {b : Nd} {t : Addr} {vb : V}, FunsAt H hs bs vs → H t = some (.tup [.int h.1, .int h.2, vb]) → NodeAt H b vb → FunsAt H (hs ++ [h]) (bs ++ [b]) (vs ++ [.ref t])
  | [], [], _, h, b, t, vb, e, ht, hb => by rw [show _ = [] from e]; exact ⟨t, vb, [], rfl, ht, hb, rfl⟩
  | _ :: _, _ :: _, _, h, b, t, vb, ⟨u, vu, r, e, h1, h2, h3⟩, ht, hb => by rw [e]; exact ⟨u, vu, r ++ [.ref t], rfl, h1, h2, FunsAt.app h3 ht hb⟩

def q_parts_of (Z : Adr) (a : V) (H : Hp) (Q : VK) (E : XK) : Prop := ∃ i : Int, a = .int i ∧ ∀ H', Same H H' → Q (.int (manyP i)) H'

/-! ### programs as texts: what is read of words -/
def WE1 : List Str := ["set", "all", "pick", "loop", "call", "fail", "add", "sub", "mul"]
def WE2 : List Str := ["quo", "rest", "less", "same", "push", "at", "put", "size", "new"]
def WD : List Str := WE1 ++ WE2
theorem WD_len : WD.length = 18 := rfl
/-- a kind by its word -/
def kindO (k : Int) : List Str → Str → Option Int
  | [], _ => none
  | x :: xs, w => if x = w then some k else kindO (k + 1) xs w
def optV : Option Int → V
  | none => .non
  | some v => .int v

def kindW (w : Str) : Option Int := kindO 2 WD w
theorem kindO_some {w : Str} : ∀ {l : List Str} {k i : Int}, kindO k l w = some i → k ≤ i ∧ i < k + l.length ∧ w ∈ l
  | [], k, i, h => by cases h
  | x :: xs, k, i, h => by
    unfold kindO at h
    by_cases c : x = w
    · rw [if_pos c] at h
      cases h
      exact ⟨Int.le_refl _, by rw [List.length_cons]; omega, by rw [c]; exact List.mem_cons_self⟩
    · rw [if_neg c] at h
      obtain ⟨a, b, d⟩ := kindO_some h
      exact ⟨by omega, by rw [List.length_cons]; omega, List.mem_cons_of_mem _ d⟩
theorem kindW_some {w : Str} {i : Int} (h : kindW w = some i) : 2 ≤ i ∧ i ≤ 19 := by
  obtain ⟨a, b, _⟩ := kindO_some h
  have : WD.length = 18 := rfl
  omega
def LET : Str := "abcdefghijklmnopqrstuvwxyz"
def FIG : Str := "0123456789"
def isOf (w sg : Str) (m : Int) : Bool := decide (1 ≤ (w.length : Int)) && (decide ((w.length : Int) ≤ m) && w.cps.toList.all fun c => decide (c ∈ sg.cps.toList))
def isName (w : Str) : Bool := !(decide (w ∈ (["fun", "with", "is"] : List Str)) || (kindW w).isSome) && isOf w LET 8
def figsW (w : Str) : Str := if cutS w none (some 1) = "-" then cutS w (some 1) none else w
def isNumM (w : Str) (m : Int) : Bool := isOf (figsW w) FIG m && (!decide ((figsW w).cps.toList.head? = some 48) || decide (w = "0"))
def isNum (w : Str) : Bool := isNumM w 60
def numT (w : Str) : Int := (PySem.intText? w).getD 0
def isNodeW (bx : List Str) (w : Str) : Bool := decide (w ∈ bx) || (isNum w || (kindW w).isSome)
/-- what is read, or the number of the first word that can't stand -/
abbrev Rt (α : Type) := Except Nat α
def bindT {α β : Type} (x : Rt α) (f : α → Rt β) : Rt β := match x with
  | .ok a => f a
  | .error e => .error e
theorem bindT_of {α β : Type} {x : Rt α} {f : α → Rt β} {a : α} (h : x = .ok a) : bindT x f = f a := by rw [h]; rfl
theorem bindT_er {α β : Type} {x : Rt α} {f : α → Rt β} {e : Nat} (h : x = .error e) : bindT x f = .error e := by rw [h]; rfl
theorem bindT_ok {α β : Type} {x : Rt α} {f : α → Rt β} {b : β} (h : bindT x f = .ok b) : ∃ a, x = .ok a ∧ f a = .ok b := by
  cases x with
  | ok a => exact ⟨a, rfl, h⟩
  | error e => cases h
def dueW (fit : Str → Bool) (ws : List Str) (k : Nat) : Rt (Str × Nat) := match ws[k]? with
  | none => .error k
  | some w => if fit w = true then .ok (w, k + 1) else .error k
theorem dueW_ok {fit : Str → Bool} {ws : List Str} {k : Nat} {r : Str × Nat} (h : dueW fit ws k = .ok r) : ws[k]? = some r.1 ∧ fit r.1 = true ∧ r.2 = k + 1 ∧ k < ws.length := by
  unfold dueW at h
  cases e : ws[k]? with
  | none => rw [e] at h; cases h
  | some w =>
    rw [e] at h
    dsimp only at h
    by_cases c : fit w = true
    · rw [if_pos c] at h
      cases h
      exact ⟨rfl, c, rfl, (List.getElem?_eq_some_iff.mp e).1⟩
    · rw [if_neg c] at h; cases h
/-- the words of params are these many, from at on -/
def endW (ws : List Str) : Nat → Nat → Nat
  | 0, k => k
  | f + 1, k => if k < ws.length ∧ ws[k]? ≠ some ("with" : Str) then endW ws f (k + 1) else k
abbrev Hds := List (Str × (Int × Int))
def hdOf (hd : Hds) (w : Str) : Option (Int × Int) := hd.lookup w
def headsT (ws : List Str) : Nat → Hds × Int
  | 0 => ([], 0)
  | i + 1 => if ws[i]? = some ("fun" : Str) then
      ((if (hdOf (headsT ws i).1 (ws.getD (i + 1) ("" : Str))).isSome = true then (headsT ws i).1 else (headsT ws i).1 ++ [(ws.getD (i + 1) "", ((headsT ws i).2, (endW ws ws.length (i + 2) : Int) - i - 2))]), (headsT ws i).2 + 1)
    else headsT ws i
def headsW (ws : List Str) : Hds := (headsT ws (ws.length - 1)).1
def boxW (w : Str) (bx : List Str) : Int := (bx.findIdx (fun x => decide (x = w)) : Nat)
def ownW (ws : List Str) (hd : Hds) (bx : List Str) (kind : Int) (k : Nat) : Rt (List Int × Int × Nat) :=
  if kind = 2 then bindT (dueW (fun w => decide (w ∈ bx)) ws k) fun r => .ok ([boxW r.1 bx], 1, r.2)
  else if kind = 3 then bindT (dueW (fun w => isNum w && (decide (1 ≤ numT w) && decide (numT w ≤ 12))) ws k) fun r => .ok ([numT r.1], numT r.1, r.2)
  else if kind = 4 then bindT (dueW (fun w => isNum w && (decide (2 ≤ numT w) && decide (numT w ≤ 12))) ws k) fun r => .ok ([numT r.1], numT r.1 + 1, r.2)
  else if kind = 6 then bindT (dueW (fun w => isName w && (hdOf hd w).isSome) ws k) fun r => .ok ([((hdOf hd r.1).getD (0, 0)).1], ((hdOf hd r.1).getD (0, 0)).2, r.2)
  else if kind = 5 then .ok ([], 2, k) else .ok ([], manyP kind, k)
def partsW (f : Nat → Rt (List Int × Nat)) : Nat → Nat → Rt (List Int × Nat)
  | 0, k => .ok ([], k)
  | m + 1, k => bindT (partsW f m k) fun r => bindT (f r.2) fun b => .ok (r.1 ++ b.1, b.2)
def nodeW (ws : List Str) (hd : Hds) (bx : List Str) : Nat → Nat → Rt (List Int × Nat)
  | 0, k => .error k
  | f + 1, k => bindT (dueW (isNodeW bx) ws k) fun r =>
    if r.1 ∈ bx then .ok ([1, boxW r.1 bx], r.2)
    else if isNum r.1 = true then .ok ([0, numT r.1], r.2)
    else match kindW r.1 with
      | none => .ok ([], r.2)
      | some kind => bindT (ownW ws hd bx kind r.2) fun o => bindT (partsW (nodeW ws hd bx f) o.2.1.toNat o.2.2) fun p => .ok (kind :: o.1 ++ p.1, p.2)
def boxesW (ws : List Str) (en : Str) (m : Int) : Nat → List Str → Nat → Rt (List Str × Nat)
  | 0, _, k => .error k
  | f + 1, bx, k => if ws[k]? = some en then .ok (bx, k + 1) else if (bx.length : Int) = m then .error k
    else bindT (dueW (fun w => isName w && !decide (w ∈ bx)) ws k) fun r => boxesW ws en m f (bx ++ [r.1]) r.2
abbrev Prg := List (Str × List Str) × List Int × List Int × Nat
def onceW (ws : List Str) (hd : Hds) (p : Prg) : Rt Prg := if p.1.length = 16 then .error p.2.2.2 else
  bindT (dueW (fun w => decide (w = "fun")) ws p.2.2.2) fun r1 => bindT (dueW (fun w => isName w && !decide (w ∈ p.1.map (·.1))) ws r1.2) fun r2 =>
  bindT (boxesW ws "with" (if p.1 = [] then 0 else 4) (ws.length + 1) [] r2.2) fun r3 => bindT (boxesW ws "is" 12 (ws.length + 1) r3.1 r3.2) fun r4 =>
  bindT (nodeW ws hd r4.1 10 r4.2) fun r5 => .ok (p.1 ++ [(r2.1, r4.1)], p.2.1 ++ [(r3.1.length : Int), (r4.1.length : Int)], p.2.2.1 ++ r5.1, r5.2)
def loopW (ws : List Str) (hd : Hds) : Nat → Prg → Rt Prg
  | 0, p => .error p.2.2.2
  | f + 1, p => if p.1 = [] ∨ p.2.2.2 < ws.length then bindT (onceW ws hd p) (loopW ws hd f) else .ok p
def readW (ws : List Str) : Rt (List (Str × List Str) × List Int) := bindT (loopW ws (headsW ws) 18 ([], [], [], 0)) fun p => .ok (p.1, (p.1.length : Int) :: p.2.1 ++ p.2.2.1)
/-- the words of a text -/
def wordsT (t : Str) : List Str := (Txt.split (Txt.replace t "\n" " ") " ").filter fun w => !decide (w = "")
theorem cutS_le (w : Str) (lo hi : Option Int) : (cutS w lo hi).length ≤ w.length := cutS_length w lo hi
theorem isOf_at {w sg : Str} {m : Int} (h : isOf w sg m = true) : ∃ cc, atI w.cps.toList 0 = some cc ∧ w.cps.toList.head? = some cc := by
  unfold isOf at h
  have h1 := of_decide_eq_true (Bool.and_eq_true_iff.mp h).1
  have l : w.length = w.cps.toList.length := by show w.cps.size = _; rw [Array.length_toList]
  have hp : 0 < w.cps.toList.length := by omega
  refine ⟨w.cps.toList[0], ?_, by rw [List.head?_eq_getElem?]; exact List.getElem?_eq_getElem hp⟩
  show atI w.cps.toList ((0 : Nat) : Int) = _
  exact atI_nat (List.getElem?_eq_getElem hp)
/-- what is read goes on, and isn't long -/
def Goes (n k : Nat) (r : List Int × Nat) : Prop := k ≤ r.2 ∧ r.1.length ≤ 2 * (r.2 - k) ∧ (k ≤ n → r.2 ≤ n)
theorem ownW_goes {ws : List Str} {hd : Hds} {bx : List Str} {kind : Int} {k : Nat} {o : List Int × Int × Nat} (h : ownW ws hd bx kind k = .ok o) : Goes ws.length k (o.1, o.2.2) := by
  have one : ∀ {fit : Str → Bool} {r : Str × Nat} {z : Int}, dueW fit ws k = .ok r → Goes ws.length k ([z], r.2) := fun {fit r z} e => by
    obtain ⟨_, _, e3, e4⟩ := dueW_ok e
    exact ⟨by show k ≤ r.2; omega, by show 1 ≤ 2 * (r.2 - k); omega, fun _ => by show r.2 ≤ ws.length; omega⟩
  have nil : Goes ws.length k (([] : List Int), k) := ⟨Nat.le_refl _, Nat.zero_le _, fun z => z⟩
  unfold ownW at h
  by_cases c0 : kind = 2
  · rw [if_pos c0] at h; obtain ⟨a, e, f⟩ := bindT_ok h; cases f; exact one e
  rw [if_neg c0] at h
  by_cases c1 : kind = 3
  · rw [if_pos c1] at h; obtain ⟨a, e, f⟩ := bindT_ok h; cases f; exact one e
  rw [if_neg c1] at h
  by_cases c2 : kind = 4
  · rw [if_pos c2] at h; obtain ⟨a, e, f⟩ := bindT_ok h; cases f; exact one e
  rw [if_neg c2] at h
  by_cases c3 : kind = 6
  · rw [if_pos c3] at h; obtain ⟨a, e, f⟩ := bindT_ok h; cases f; exact one e
  rw [if_neg c3] at h
  by_cases c4 : kind = 5
  · rw [if_pos c4] at h; cases h; exact nil
  · rw [if_neg c4] at h; cases h; exact nil
theorem ownW_many {ws : List Str} {hd : Hds} {bx : List Str} {kind : Int} {k : Nat} {o : List Int × Int × Nat} (hh : ∀ h ∈ hd, 0 ≤ h.2.2 ∧ h.2.2 ≤ 1000000) (h : ownW ws hd bx kind k = .ok o) : 0 ≤ o.2.1 ∧ o.2.1 ≤ 1000000 := by
  unfold ownW at h
  by_cases c0 : kind = 2
  · rw [if_pos c0] at h; obtain ⟨a, e, f⟩ := bindT_ok h; cases f; exact ⟨by show (0 : Int) ≤ 1; decide, by show (1 : Int) ≤ 1000000; decide⟩
  rw [if_neg c0] at h
  by_cases c1 : kind = 3
  · rw [if_pos c1] at h
    obtain ⟨a, e, f⟩ := bindT_ok h
    obtain ⟨_, e2, _, _⟩ := dueW_ok e
    simp only [Bool.and_eq_true, decide_eq_true_eq] at e2
    cases f
    exact ⟨by show 0 ≤ numT a.1; omega, by show numT a.1 ≤ 1000000; omega⟩
  rw [if_neg c1] at h
  by_cases c2 : kind = 4
  · rw [if_pos c2] at h
    obtain ⟨a, e, f⟩ := bindT_ok h
    obtain ⟨_, e2, _, _⟩ := dueW_ok e
    simp only [Bool.and_eq_true, decide_eq_true_eq] at e2
    cases f
    exact ⟨by show 0 ≤ numT a.1 + 1; omega, by show numT a.1 + 1 ≤ 1000000; omega⟩
  rw [if_neg c2] at h
  by_cases c3 : kind = 6
  · rw [if_pos c3] at h
    obtain ⟨a, e, f⟩ := bindT_ok h
    cases f
    show 0 ≤ ((hdOf hd a.1).getD (0, 0)).2 ∧ ((hdOf hd a.1).getD (0, 0)).2 ≤ 1000000
    cases x : hdOf hd a.1 with
    | none => exact ⟨by decide, by decide⟩
    | some m => exact hh (a.1, m) (PySem.mem_of_lookup x)
  rw [if_neg c3] at h
  by_cases c4 : kind = 5
  · rw [if_pos c4] at h; cases h; exact ⟨by show (0 : Int) ≤ 2; decide, by show (2 : Int) ≤ 1000000; decide⟩
  · rw [if_neg c4] at h
    cases h
    show 0 ≤ manyP kind ∧ manyP kind ≤ 1000000
    unfold manyP
    repeat' split
    all_goals omega
theorem partsW_goes {f : Nat → Rt (List Int × Nat)} {n : Nat} (hf : ∀ k b, f k = .ok b → Goes n k b) : ∀ {m k : Nat} {r : List Int × Nat}, partsW f m k = .ok r → Goes n k r
  | 0, k, r, h => by cases h; exact ⟨Nat.le_refl _, Nat.zero_le _, fun z => z⟩
  | m + 1, k, r, h => by
    obtain ⟨a, e, h⟩ := bindT_ok h
    obtain ⟨b, e2, h⟩ := bindT_ok h
    cases h
    obtain ⟨a1, a2, a3⟩ := partsW_goes hf e
    obtain ⟨b1, b2, b3⟩ := hf _ _ e2
    exact ⟨Nat.le_trans a1 b1, by show (a.1 ++ b.1).length ≤ 2 * (b.2 - k); rw [List.length_append]; omega, fun z => b3 (a3 z)⟩
theorem partsW_err {f : Nat → Rt (List Int × Nat)} {k i : Nat} {e : Nat} (h : partsW f i k = .error e) : ∀ {m : Nat}, i ≤ m → partsW f m k = .error e
  | 0, hm => by cases Nat.le_zero.mp hm; exact h
  | m + 1, hm => by
    by_cases c : i = m + 1
    · subst c; exact h
    · exact bindT_er (partsW_err h (by omega))
theorem nodeW_goes {ws : List Str} {hd : Hds} {bx : List Str} : ∀ {f k : Nat} {r : List Int × Nat}, nodeW ws hd bx f k = .ok r → Goes ws.length k r ∧ k < r.2
  | 0, k, r, h => by cases h
  | f + 1, k, r, h => by
    obtain ⟨a, e, h⟩ := bindT_ok h
    obtain ⟨_, _, e3, e4⟩ := dueW_ok e
    by_cases c : a.1 ∈ bx
    · rw [if_pos c] at h
      cases h
      exact ⟨⟨by show k ≤ a.2; omega, by show 2 ≤ 2 * (a.2 - k); omega, fun _ => by show a.2 ≤ ws.length; omega⟩, by show k < a.2; omega⟩
    rw [if_neg c] at h
    by_cases d : isNum a.1 = true
    · rw [if_pos d] at h
      cases h
      exact ⟨⟨by show k ≤ a.2; omega, by show 2 ≤ 2 * (a.2 - k); omega, fun _ => by show a.2 ≤ ws.length; omega⟩, by show k < a.2; omega⟩
    rw [if_neg d] at h
    cases x : kindW a.1 with
    | none =>
      rw [x] at h
      cases h
      exact ⟨⟨by show k ≤ a.2; omega, Nat.zero_le _, fun _ => by show a.2 ≤ ws.length; omega⟩, by show k < a.2; omega⟩
    | some kind =>
      rw [x] at h
      obtain ⟨o, eo, h⟩ := bindT_ok h
      obtain ⟨q, eq, h⟩ := bindT_ok h
      cases h
      obtain ⟨o1, o2, o3⟩ := ownW_goes eo
      obtain ⟨q1, q2, q3⟩ := partsW_goes (fun k b z => (nodeW_goes z).1) eq
      dsimp only at o1 o2 o3
      refine ⟨⟨by show k ≤ q.2; omega, ?_, fun _ => q3 (o3 (by omega))⟩, by show k < q.2; omega⟩
      show (kind :: o.1 ++ q.1).length ≤ 2 * (q.2 - k)
      rw [List.length_append, List.length_cons]
      omega
theorem FIG_mem {c : Nat} (h : c ∈ FIG.cps.toList) : 48 ≤ c ∧ c ≤ 57 := by
  rw [show FIG.cps.toList = [48, 49, 50, 51, 52, 53, 54, 55, 56, 57] by decide +kernel] at h
  simp only [List.mem_cons, List.not_mem_nil, or_false] at h
  omega
theorem isOf_parts {w sg : Str} {m : Int} (h : isOf w sg m = true) : w.cps.toList ≠ [] ∧ (w.length : Int) ≤ m ∧ ∀ c ∈ w.cps.toList, c ∈ sg.cps.toList := by
  unfold isOf at h
  simp only [Bool.and_eq_true, decide_eq_true_eq, List.all_eq_true] at h
  have := len_ls w
  exact ⟨fun z => by rw [z] at this; have := h.1; simp at *; omega, h.2.1, h.2.2⟩
theorem cut1 (w : Str) : cutS w none (some 1) = ofL (w.cps.toList.take 1) ∧ cutS w (some 1) none = ofL (w.cps.toList.drop 1) := by
  have e : ((1 : Int)) = ((1 : Nat) : Int) := rfl
  have l := len_ls w
  unfold cutS
  rw [HT.sIx_none, HT.sIx_none, e, HT.sIx_nat, List.drop_zero, Nat.sub_zero]
  refine ⟨?_, ?_⟩
  · rcases Nat.lt_or_ge w.length 1 with c | c
    · rw [Nat.min_eq_right (by omega), List.take_of_length_le (by omega), List.take_of_length_le (by omega)]; rfl
    · rw [Nat.min_eq_left c]; rfl
  · rw [HT.sIx_nat]
    rcases Nat.lt_or_ge w.length 1 with c | c
    · rw [Nat.min_eq_right (by omega), Nat.sub_self, List.take_zero, List.drop_eq_nil_of_le (by omega)]; rfl
    · rw [Nat.min_eq_left c, List.take_of_length_le (by rw [List.length_drop]; omega)]; rfl
theorem figsW_is (w : Str) : (w.cps.toList.head? = some 45 → figsW w = ofL (w.cps.toList.drop 1)) ∧ (w.cps.toList.head? ≠ some 45 → figsW w = w) := by
  unfold figsW
  rw [(cut1 w).1, (cut1 w).2, show (("-" : Str)) = ofL [45] by decide +kernel]
  cases e : w.cps.toList with
  | nil => exact ⟨fun h => (by cases h), fun _ => by rw [if_neg (by decide)]⟩
  | cons a l =>
    refine ⟨fun h => ?_, fun h => ?_⟩
    · cases h; rw [if_pos (by rfl)]
    · rw [if_neg]
      intro z
      have := congrArg (fun s : Str => s.cps.toList) z
      cases this
      exact h rfl
theorem isNumM_int {w : Str} {m : Int} (h : isNumM w m = true) (hm : m ≤ 600) : PySem.intText? w = some (numT w) ∧ w.length ≤ 640 := by
  unfold isNumM at h
  have h1 := (Bool.and_eq_true_iff.mp h).1
  obtain ⟨a, b, c⟩ := isOf_parts h1
  have l := len_ls w
  have key : ∃ i, PySem.intText? w = some i ∧ w.length ≤ 640 := by
    by_cases d : w.cps.toList.head? = some 45
    · rw [(figsW_is w).1 d] at a b c
      rw [ls_ofL] at a c
      rw [len_ls, ls_ofL] at b
      cases e : w.cps.toList with
      | nil => rw [e] at d; cases d
      | cons x r =>
        rw [e] at a b c d l
        cases d
        have l2 : w.length ≤ 640 := by rw [List.length_cons] at l; simp only [List.drop_one, List.tail_cons] at b; omega
        exact ⟨_, PySem.intText_neg e (fun y hy => FIG_mem (c y hy)) a (by omega), l2⟩
    · rw [(figsW_is w).2 d] at a b c
      exact ⟨_, PySem.intText_digits (fun y hy => FIG_mem (c y hy)) a (by omega), by omega⟩
  obtain ⟨i, h1, h2⟩ := key
  exact ⟨by rw [h1]; unfold numT; rw [h1]; rfl, h2⟩
theorem num_int {w : Str} (h : isNum w = true) : PySem.intText? w = some (numT w) ∧ w.length ≤ 640 := isNumM_int h (by decide)
theorem wordsT_eq (t : Str) : wordsT t = (ws0 t.cps.toList).map ofL := words_eq t
/-- the words of a text of moderate length -/
theorem wordsT_ok {t : Str} (h : t.length ≤ 500000) (hs : PyData.strOk t = true) : (wordsT t).length ≤ 1000000 ∧ ∀ w ∈ wordsT t, w.length ≤ 10000000 ∧ PyData.strOk w = true := by
  rw [wordsT_eq]
  have l := len_ls t
  refine ⟨by rw [List.length_map]; have := ws0_len t.cps.toList; omega, fun w hw => ?_⟩
  obtain ⟨p, hp, rfl⟩ := List.mem_map.mp hw
  obtain ⟨h1, h2, h3⟩ := ws0_mem hp
  refine ⟨by rw [len_ls, ls_ofL]; omega, ?_⟩
  unfold PyData.strOk at hs ⊢
  rw [Array.all_eq_true_iff_forall_mem] at hs ⊢
  intro x hx
  exact hs x (Array.mem_toList_iff.mp (h3 x (by simpa [ofL] using hx)).1)
theorem endW_le (ws : List Str) : ∀ (f k : Nat), k ≤ ws.length + 1 → endW ws f k ≤ ws.length + 1
  | 0, k, h => h
  | f + 1, k, h => by
    unfold endW
    by_cases c : k < ws.length ∧ ws[k]? ≠ some ("with" : Str)
    · rw [if_pos c]; exact endW_le ws f (k + 1) (by have := c.1; omega)
    · rw [if_neg c]; exact h
theorem headsT_many (ws : List Str) (hn : ws.length ≤ 1000000) : ∀ i : Nat, i + 1 ≤ ws.length → ∀ h ∈ (headsT ws i).1, 0 ≤ h.2.2 ∧ h.2.2 ≤ 1000000
  | 0, _, h, hh => by cases hh
  | i + 1, hi, h, hh => by
    have ih := headsT_many ws hn i (by omega)
    unfold headsT at hh
    by_cases d : ws[i]? = some ("fun" : Str)
    · rw [if_pos d] at hh
      dsimp only at hh
      by_cases e : (hdOf (headsT ws i).1 (ws.getD (i + 1) ("" : Str))).isSome = true
      · rw [if_pos e] at hh; exact ih h hh
      · rw [if_neg e] at hh
        rcases List.mem_append.mp hh with z | z
        · exact ih h z
        · rw [List.mem_singleton.mp z]
          have g1 := endW_ge0 ws ws.length (i + 2)
          have g2 := endW_le ws ws.length (i + 2) (by omega)
          exact ⟨by show 0 ≤ (endW ws ws.length (i + 2) : Int) - i - 2; omega, by show (endW ws ws.length (i + 2) : Int) - i - 2 ≤ 1000000; omega⟩
    · rw [if_neg d] at hh; exact ih h hh
where
  endW_ge0 (ws : List Str) : ∀ (f k : Nat), k ≤ endW ws f k
    | 0, k => Nat.le_refl _
    | f + 1, k => by
      unfold endW
      by_cases c : k < ws.length ∧ ws[k]? ≠ some ("with" : Str)
      · rw [if_pos c]; exact Nat.le_trans (Nat.le_succ k) (endW_ge0 ws f (k + 1))
      · rw [if_neg c]; exact Nat.le_refl _
theorem headsW_many {ws : List Str} (hn : ws.length ≤ 1000000) : ∀ h ∈ headsW ws, 0 ≤ h.2.2 ∧ h.2.2 ≤ 1000000 := by
  intro h hh
  unfold headsW at hh
  by_cases c : ws.length = 0
  · rw [c] at hh; cases hh
  · exact headsT_many ws hn _ (by omega) h hh
theorem split_len (t s : Str) : (Txt.split t s).length ≤ t.length + 2 := by
  unfold Txt.split
  split
  · show 1 ≤ _; omega
  · split
    · show 1 ≤ _; omega
    · rw [PySem.length_partsBetween]
      have := PySem.StrLaws.occ_length_le_len t s 0 t.length (t.length + 1)
      omega
theorem flat_strs (ws : List Str) : (ws.map V.str).all flatV = true := List.all_eq_true.mpr fun v hv => by
  obtain ⟨w, _, rfl⟩ := List.mem_map.mp hv
  rfl
theorem boxW_at {w : Str} {bx : List Str} (h : w ∈ bx) : ∃ j : Nat, boxW w bx = (j : Int) ∧ bx[j]? = some w ∧ ∀ (m : Nat) (z : Str), m < j → bx[m]? = some z → z ≠ w := by
  have hx : ∃ x ∈ bx, decide (x = w) = true := ⟨w, h, by simp⟩
  have hl : bx.findIdx (fun x => decide (x = w)) < bx.length := List.findIdx_lt_length_of_exists hx
  refine ⟨bx.findIdx (fun x => decide (x = w)), rfl, ?_, fun m z hm hz e => ?_⟩
  · rw [List.getElem?_eq_getElem hl]
    have := List.findIdx_getElem (xs := bx) (p := fun x => decide (x = w)) (w := hl)
    rw [of_decide_eq_true this]
  · have hm' := Nat.lt_trans hm hl
    rw [List.getElem?_eq_getElem hm'] at hz
    have := List.not_of_lt_findIdx hm
    rw [Option.some.inj hz, e] at this
    simp at this
theorem eqv_one (a b : Str) : PyData.eqv (.list [.str a]) (.list [.str b]) = decide (a = b) := by
  simp only [PyData.eqv, PyData.eqvAll, Bool.and_true]
  by_cases c : a = b
  · subst c; simp
  · rw [decide_eq_false c]; simpa using c
theorem eqV_str (a b : Str) : eqV (.str a) (.str b) = decide (a = b) := by
  show (a == b) = _
  by_cases c : a = b
  · subst c; simp
  · rw [decide_eq_false c]; simpa using c
theorem s_indexS {K : PySem.W.Frag} {H : Hp} {Q : VK} {p : Addr} {w : Str} {bx : List Str} (h1 : SqL K H p (bx.map V.str)) (h : w ∈ bx) (q : Q (.int (boxW w bx)) H) : rIndex K (.ref p) [.str w] H Q := by
  obtain ⟨j, e, e1, e2⟩ := boxW_at h
  rw [e] at q
  refine s_index (j := j) (z := .str w) h1 rfl (flat_strs bx) (by rw [List.getElem?_map, e1]; rfl) (by rw [eqV_str]; simp) (fun m z hm hz => ?_) q
  rw [List.getElem?_map] at hz
  obtain ⟨y, hy, rfl⟩ := Option.map_eq_some_iff.mp hz
  rw [eqV_str]
  exact decide_eq_false (e2 m y hm hy)
theorem inV_strs (w : Str) (ws : List Str) : inV (.str w) (ws.map V.str) = decide (w ∈ ws) := by
  unfold inV
  induction ws with
  | nil => simp
  | cons a ws ih =>
    rw [List.map_cons, List.any_cons, ih]
    have : eqV (.str a) (.str w) = decide (w = a) := by
      show (a == w) = _
      by_cases c : w = a
      · subst c; simp
      · rw [decide_eq_false c]; simpa using fun z => c z.symm
    rw [this]
    by_cases c : w = a <;> simp [c]
/-! ### what stands in the heap -/
def XtAt (H : Hp) (d : Addr) (k : Nat) : Prop := H d = some (.xd [("at", .int (k : Int))])
def ErrT (Z : Adr) (p : Addr) (H : Hp) (k : Nat) (E : XK) : Prop := ∀ d H', But p H H' → XtAt H' d k → E (.ref Z.c_NoText) (some d) H'
theorem ErrT.trans {Z : Adr} {p : Addr} {H H' : Hp} {k : Nat} {E : XK} (h : ErrT Z p H k E) (B : But p H H') : ErrT Z p H' k E := fun d H2 B2 x => h d H2 (B.trans B2) x
theorem small1000000 {n : Nat} (h : n < 1000001) : n < sizeLine := Nat.lt_trans h (by decide)
theorem headsT_len (ws : List Str) : ∀ i : Nat, (headsT ws i).1.length ≤ i ∧ 0 ≤ (headsT ws i).2 ∧ (headsT ws i).2 ≤ i
  | 0 => ⟨Nat.le_refl _, Int.le_refl _, Int.le_refl _⟩
  | i + 1 => by
    obtain ⟨a, b, c⟩ := headsT_len ws i
    unfold headsT
    by_cases d : ws[i]? = some ("fun" : Str)
    · rw [if_pos d]
      refine ⟨?_, by show 0 ≤ (headsT ws i).2 + 1; omega, by show (headsT ws i).2 + 1 ≤ ((i + 1 : Nat) : Int); omega⟩
      dsimp only
      by_cases e : (hdOf (headsT ws i).1 (ws.getD (i + 1) ("" : Str))).isSome = true
      · rw [if_pos e]; omega
      · rw [if_neg e, List.length_append, List.length_singleton]; omega
    · rw [if_neg d]; exact ⟨by omega, b, by omega⟩
theorem endW_ge (ws : List Str) : ∀ (f k : Nat), k ≤ endW ws f k
  | 0, k => Nat.le_refl _
  | f + 1, k => by
    unfold endW
    by_cases c : k < ws.length ∧ ws[k]? ≠ some ("with" : Str)
    · rw [if_pos c]; exact Nat.le_trans (Nat.le_succ k) (endW_ge ws f (k + 1))
    · rw [if_neg c]; exact Nat.le_refl _
theorem endW_stop (ws : List Str) {k : Nat} (c : ¬ (k < ws.length ∧ ws[k]? ≠ some ("with" : Str))) : ∀ f : Nat, endW ws f k = k
  | 0 => rfl
  | f + 1 => by unfold endW; rw [if_neg c]
theorem endW_go (ws : List Str) {k : Nat} (c : k < ws.length ∧ ws[k]? ≠ some ("with" : Str)) : ∀ f g : Nat, ws.length ≤ k + f → ws.length ≤ k + 1 + g → endW ws f k = endW ws g (k + 1)
  | 0, g, h1, h2 => by have := c.1; omega
  | f + 1, g, h1, h2 => by
    have e : endW ws (f + 1) k = endW ws f (k + 1) := by
      show (if k < ws.length ∧ ws[k]? ≠ some ("with" : Str) then endW ws f (k + 1) else k) = _
      rw [if_pos c]
    rw [e]
    exact endW_any ws f g (k + 1) (by omega) (by omega)
where
  endW_any (ws : List Str) : ∀ f g k : Nat, ws.length ≤ k + f → ws.length ≤ k + g → endW ws f k = endW ws g k
    | 0, g, k, h1, h2 => (endW_stop ws (k := k) (fun z => by have := z.1; omega) g).symm
    | f + 1, 0, k, h1, h2 => endW_stop ws (k := k) (fun z => by have := z.1; omega) (f + 1)
    | f + 1, g + 1, k, h1, h2 => by
      by_cases c : k < ws.length ∧ ws[k]? ≠ some ("with" : Str)
      · have e : ∀ n, endW ws (n + 1) k = endW ws n (k + 1) := fun n => by
          show (if k < ws.length ∧ ws[k]? ≠ some ("with" : Str) then endW ws n (k + 1) else k) = _
          rw [if_pos c]
        rw [e, e]
        exact endW_any ws f g (k + 1) (by omega) (by omega)
      · rw [endW_stop ws c, endW_stop ws c]
def NamesAt (H : Hp) : List (Str × List Str) → List V → Prop
  | [], vs => vs = []
  | (w, bx) :: r, vs => ∃ t tb us, vs = .ref t :: us ∧ H t = some (.tup [.str w, .ref tb]) ∧ H tb = some (.tup (bx.map V.str)) ∧ NamesAt H r us
theorem NamesAt.mono {H H' : Hp} (T : TupS H H') : ∀ {ns : List (Str × List Str)} {vs : List V}, NamesAt H ns vs → NamesAt H' ns vs
  | [], _, h => h
  | (_, _) :: _, _, ⟨t, tb, us, e, h1, h2, h3⟩ => ⟨t, tb, us, e, T _ _ h1, T _ _ h2, NamesAt.mono T h3⟩
theorem boxesW_len {ws : List Str} {en : Str} {m : Int} : ∀ {f : Nat} {bx : List Str} {k : Nat} {r : List Str × Nat}, boxesW ws en m f bx k = .ok r → (bx.length : Int) ≤ m → (r.1.length : Int) ≤ m
  | 0, bx, k, r, h, hl => by cases h
  | f + 1, bx, k, r, h, hl => by
    unfold boxesW at h
    by_cases c : ws[k]? = some en
    · rw [if_pos c] at h; cases h; exact hl
    rw [if_neg c] at h
    by_cases d : (bx.length : Int) = m
    · rw [if_pos d] at h; cases h
    rw [if_neg d] at h
    obtain ⟨a, e, h⟩ := bindT_ok h
    exact boxesW_len h (by rw [List.length_append, List.length_singleton]; omega)
theorem boxesW_ge {ws : List Str} {en : Str} {m : Int} : ∀ {f : Nat} {bx : List Str} {k : Nat} {r : List Str × Nat}, boxesW ws en m f bx k = .ok r → k ≤ r.2
  | 0, bx, k, r, h => by cases h
  | f + 1, bx, k, r, h => by
    unfold boxesW at h
    by_cases c : ws[k]? = some en
    · rw [if_pos c] at h; cases h; exact Nat.le_succ k
    rw [if_neg c] at h
    by_cases d : (bx.length : Int) = m
    · rw [if_pos d] at h; cases h
    rw [if_neg d] at h
    obtain ⟨a, e, h⟩ := bindT_ok h
    obtain ⟨_, _, e3, _⟩ := dueW_ok e
    have := boxesW_ge h
    omega
theorem same_own2 {p q : Addr} {H H1 H2 : Hp} (a : Same H H1) (b : But2 p q H1 H2) (hp : H p = none) (hq : H q = none) : Same H H2 := ⟨fun c o h k => b.st c o (.inl ⟨ne_of_none h hp, ne_of_none h hq⟩) (a.st c o h k) k, fun c ps h => (a.tb c ps h).elim fun ps' z => b.tb c ps' z, fun c t => b.tt c (a.tt c t)⟩
theorem or_by {t u : TT} {σ : L2.St} {H : Hp} {QB : Bool → Hp → Prop} (b1 b2 : Bool) (h1 : ∀ {QB' : Bool → Hp → Prop}, (∀ H1, Same H H1 → QB' b1 H1) → t σ H QB') (h2 : ∀ {H1 : Hp} {QB' : Bool → Hp → Prop}, Same H H1 → (∀ H2, Same H1 H2 → QB' b2 H2) → u σ H1 QB') (h : ∀ H1, Same H H1 → QB (b1 || b2) H1) : tOr t u σ H QB := by
  refine s_or (h1 fun H1 S1 => ?_)
  cases b1 with
  | true => exact s_ift (h H1 S1)
  | false => exact s_iff (h2 S1 fun H2 S2 => h H2 (S1.trans S2))
theorem NamesAt.len {H : Hp} : ∀ {ns : List (Str × List Str)} {vs : List V}, NamesAt H ns vs → vs.length = ns.length
  | [], vs, h => by
    have h : vs = [] := h
    subst h
    rfl
  | (_, _) :: _, _, ⟨t, tb, us, e, h1, h2, h3⟩ => by rw [e, List.length_cons, List.length_cons, h3.len]
theorem NamesAt.get {H : Hp} : ∀ {ns : List (Str × List Str)} {vs : List V} {i : Nat} {v : V}, NamesAt H ns vs → vs[i]? = some v → ∃ w bx t tb, ns[i]? = some (w, bx) ∧ v = .ref t ∧ H t = some (.tup [.str w, .ref tb]) ∧ H tb = some (.tup (bx.map V.str))
  | [], vs, i, v, h, e => by
    have h : vs = [] := h
    subst h
    cases e
  | (w, bx) :: _, _, 0, v, ⟨t, tb, us, e, h1, h2, h3⟩, ev => by
    subst e
    cases ev
    exact ⟨w, bx, t, tb, rfl, rfl, h1, h2⟩
  | (_, _) :: _, _, i + 1, v, ⟨t, tb, us, e, h1, h2, h3⟩, ev => by
    subst e
    exact h3.get ev
theorem NamesAt.app {H : Hp} {w : Str} {bx : List Str} {t tb : Addr} (h1 : H t = some (.tup [.str w, .ref tb])) (h2 : H tb = some (.tup (bx.map V.str))) : ∀ {ns : List (Str × List Str)} {vs : List V}, NamesAt H ns vs → NamesAt H (ns ++ [(w, bx)]) (vs ++ [.ref t])
  | [], vs, h => by
    have h : vs = [] := h
    subst h
    exact ⟨t, tb, [], rfl, h1, h2, rfl⟩
  | (_, _) :: _, _, ⟨t', tb', us, e, g1, g2, g3⟩ => by
    subst e
    exact ⟨t', tb', us ++ [.ref t], rfl, g1, g2, g3.app h1 h2⟩
/-! ### the promises -/
def q_word_of (Z : Adr) (a : V) (H : Hp) (Q : VK) (E : XK) : Prop := ∃ (i : Nat) (w : Str), a = .int (2 + i) ∧ WD[i]? = some w ∧ ∀ H', Same H H' → Q (.str w) H'
def q_kind_of (Z : Adr) (a : V) (H : Hp) (Q : VK) (E : XK) : Prop := ∃ w, a = .str w ∧ ∀ H', Same H H' → Q (optV (kindW w)) H'
def q_NoText_init (Z : Adr) (s a : V) (H : Hp) (Q : VK) (E : XK) : Prop := ∃ p, s = .ref p ∧ H p = some (exo p Z.c_NoText none) ∧ ∀ d, H d = none → d ≠ p → Q .non (upd (upd H d (exd d [("at", a)])) p (exo p Z.c_NoText (some d)))
theorem raise_NoText {Z : Adr} {H : Hp} {W : WX} {σ : L2.St} {k : Nat} (h : ∀ d H', Same H H' → XtAt H' d k → W (.ref Z.c_NoText) (some d) σ H') : zMkO Z.c_NoText (Sp2 (q_NoText_init Z)) [.int (k : Int)] H (fun cls d H' => W cls d σ H') := by
  refine ⟨by show 1 ≤ 1000; decide, fun a ha => ⟨.ref a, .int k, rfl, a, rfl, upd_same, fun d hd hda => ⟨rfl, d, [("at", .int k)], ?_, ?_, ?_, ?_⟩⟩⟩
  · rw [upd_same]
  · rw [upd_ne hda, upd_same]
  · rw [upd_ne hda] at hd; exact hd
  · rw [upd_ne hda] at hd
    refine h d _ (.all fun b o hb => ?_) upd_same
    have n1 : b ≠ d := ne_of_none hb hd
    have n2 : b ≠ a := ne_of_none hb ha
    rw [upd_ne n1, del_ne n2, upd_ne n2, upd_ne n1, upd_ne n2]
    exact hb
def q_is_of (Z : Adr) (a b c : V) (H : Hp) (Q : VK) (E : XK) : Prop := ∃ (w sg : Str) (m : Int), a = .str w ∧ b = .str sg ∧ c = .int m ∧ w.length ≤ 10000000 ∧ ∀ H', Same H H' → Q (.bl (isOf w sg m)) H'
def q_is_name (Z : Adr) (a : V) (H : Hp) (Q : VK) (E : XK) : Prop := ∃ w : Str, a = .str w ∧ w.length ≤ 10000000 ∧ ∀ H', Same H H' → Q (.bl (isName w)) H'
def q_is_number_of (Z : Adr) (a b : V) (H : Hp) (Q : VK) (E : XK) : Prop := ∃ (w : Str) (m : Int), a = .str w ∧ b = .int m ∧ w.length ≤ 10000000 ∧ ∀ H', Same H H' → Q (.bl (isNumM w m)) H'
def q_is_number_word (Z : Adr) (a : V) (H : Hp) (Q : VK) (E : XK) : Prop := ∃ w : Str, a = .str w ∧ w.length ≤ 10000000 ∧ ∀ H', Same H H' → Q (.bl (isNum w)) H'
def q_is_node_word (Z : Adr) (a b : V) (H : Hp) (Q : VK) (E : XK) : Prop := ∃ (w : Str) (lb : Addr) (bx : List Str), a = .str w ∧ b = .ref lb ∧ SqL Z.K H lb (bx.map V.str) ∧ w.length ≤ 10000000 ∧ ∀ H', Same H H' → Q (.bl (isNodeW bx w)) H'
def q_words_of (Z : Adr) (a : V) (H : Hp) (Q : VK) (E : XK) : Prop := ∃ t : Str, a = .str t ∧ t.length ≤ 1000000 ∧ ∀ l H', Same H H' → H l = none → H' l = some (.lst ((wordsT t).map V.str)) → Q (.ref l) H'

/-! ### sheets as a law draws them -/
def HeadsOK (hs : List (Int × Int)) : Prop := 1 ≤ hs.length ∧ hs.length ≤ 16 ∧ ∀ (i : Nat) (h : Int × Int), hs[i]? = some h → 0 ≤ h.1 ∧ h.1 ≤ (if 0 < i then 4 else 0) ∧ h.1 ≤ h.2 ∧ h.2 ≤ 12
mutual
def enc : Nd → List Int
  | .mk k _ ns ps => k :: (ns ++ encs ps)
def encs : List Nd → List Int
  | [] => []
  | n :: ns => enc n ++ encs ns
end
mutual
/-- a node, its places forgotten -/
def strip : Nd → Nd
  | .mk k _ ns ps => .mk k 0 ns (strips ps)
def strips : List Nd → List Nd
  | [] => []
  | n :: ns => strip n :: strips ns
end
theorem strips_map : ∀ l : List Nd, strips l = l.map strip
  | [] => rfl
  | n :: l => by show strip n :: strips l = _; rw [strips_map l]; rfl
theorem encs_app : ∀ a b : List Nd, encs (a ++ b) = encs a ++ encs b
  | [], b => rfl
  | x :: a, b => by show enc x ++ encs (a ++ b) = _; rw [encs_app a b, ← List.append_assoc]; rfl
def OwnOK (hs : List (Int × Int)) (bx k : Int) (ns : List Int) (m : Nat) : Prop :=
  (k = 0 ∧ m = 0 ∧ ∃ v, ns = [v]) ∨ (((k = 1 ∧ m = 0) ∨ (k = 2 ∧ m = 1)) ∧ ∃ v, ns = [v] ∧ 0 ≤ v ∧ v < bx) ∨ (k = 3 ∧ 1 ≤ m ∧ m ≤ 12 ∧ ns = [(m : Int)]) ∨
  (k = 4 ∧ ∃ v : Nat, ns = [(v : Int)] ∧ 2 ≤ v ∧ v ≤ 12 ∧ m = v + 1) ∨ (k = 6 ∧ ∃ (v : Nat) (h : Int × Int), ns = [(v : Int)] ∧ hs[v]? = some h ∧ (m : Int) = h.1) ∨ (k = 5 ∧ m = 2 ∧ ns = []) ∨ (7 ≤ k ∧ ns = [] ∧ (m : Int) = manyP k)
def OkN (hs : List (Int × Int)) (bx : Int) : Nat → Nd → Prop
  | 0, _ => False
  | f + 1, .mk k _ ns ps => 0 ≤ k ∧ k ≤ 19 ∧ OwnOK hs bx k ns ps.length ∧ ∀ p ∈ ps, OkN hs bx f p
theorem at_drop {xs : List Int} {k : Nat} {a : Int} {r : List Int} (h : xs.drop k = a :: r) : xs[k]? = some a ∧ xs.drop (k + 1) = r := by
  constructor
  · have := congrArg (·[0]?) h
    simpa using this
  · have := congrArg (List.drop 1) h
    rw [List.drop_drop] at this
    simpa using this
theorem drop_app {xs a r : List Int} {k : Nat} (h : xs.drop k = a ++ r) : xs.drop (k + a.length) = r := by
  have := congrArg (List.drop a.length) h
  rw [List.drop_drop] at this
  simpa using this
theorem ownP_of {xs : List Int} {hs : List (Int × Int)} {bx kind : Int} {k m : Nat} {ns r : List Int} (h : OwnOK hs bx kind ns m) (e : xs.drop k = ns ++ r) : ownP xs hs bx kind k = .ok (ns, (m : Int), k + ns.length) := by
  unfold ownP
  rcases h with ⟨rfl, rfl, v, rfl⟩ | ⟨h, v, rfl, v0, v1⟩ | ⟨rfl, m1, m2, rfl⟩ | ⟨rfl, v, rfl, v0, v1, rfl⟩ | ⟨rfl, v, h, rfl, eh, em⟩ | ⟨rfl, rfl, rfl⟩ | ⟨hk, rfl, em⟩
  · rw [if_pos rfl, bindR_of (dueP_of (at_drop e).1)]; rfl
  · rcases h with ⟨rfl, rfl⟩ | ⟨rfl, rfl⟩
    · rw [if_neg (by omega), if_pos rfl, bindR_of (withinP_of (at_drop e).1 v0 (by omega))]; rfl
    · rw [if_neg (by omega), if_neg (by omega), if_pos rfl, bindR_of (withinP_of (at_drop e).1 v0 (by omega))]; rfl
  · rw [if_neg (by omega), if_neg (by omega), if_neg (by omega), if_pos rfl, bindR_of (withinP_of (at_drop e).1 (by omega) (by omega))]; rfl
  · rw [if_neg (by omega), if_neg (by omega), if_neg (by omega), if_neg (by omega), if_pos rfl, bindR_of (withinP_of (at_drop e).1 (by omega) (by omega))]; rfl
  · have hv := (List.getElem?_eq_some_iff.mp eh).1
    rw [if_neg (by omega), if_neg (by omega), if_neg (by omega), if_neg (by omega), if_neg (by omega), if_pos rfl, bindR_of (withinP_of (at_drop e).1 (by omega) (by omega))]
    have : (hs.getD (v : Int).toNat (0, 0)).1 = (m : Int) := by
      rw [Int.toNat_natCast, List.getD_eq_getElem?_getD, eh, em]; rfl
    rw [this]; rfl
  · rw [if_neg (by omega), if_neg (by omega), if_neg (by omega), if_neg (by omega), if_neg (by omega), if_neg (by omega), if_pos rfl]; rfl
  · rw [if_neg (by omega), if_neg (by omega), if_neg (by omega), if_neg (by omega), if_neg (by omega), if_neg (by omega), if_neg (by omega), em]; rfl
theorem parts_of {xs : List Int} {f : Nat → Rz (Nd × Nat)} {k : Nat} {ps : List Nd} {r : List Int} (hf : ∀ p ∈ ps, ∀ k r, xs.drop k = enc p ++ r → ∃ t, f k = .ok (t, k + (enc p).length) ∧ strip t = strip p) (e : xs.drop k = encs ps ++ r) :
    ∀ m, m ≤ ps.length → ∃ ts, partsP f m k = .ok (ts, k + (encs (ps.take m)).length) ∧ ts.map strip = (ps.take m).map strip
  | 0, _ => ⟨[], rfl, rfl⟩
  | m + 1, hm => by
    obtain ⟨ts, h, hst⟩ := parts_of hf e m (by omega)
    have hm' : m < ps.length := by omega
    have e1 : ps = ps.take m ++ ps[m] :: ps.drop (m + 1) := by rw [← List.drop_eq_getElem_cons hm', List.take_append_drop]
    have e2 : encs ps = encs (ps.take m) ++ (enc ps[m] ++ encs (ps.drop (m + 1))) := by
      conv => lhs; rw [e1]
      rw [encs_app]; rfl
    rw [e2, List.append_assoc] at e
    have e3 := drop_app e
    rw [List.append_assoc] at e3
    obtain ⟨t, ht, hst2⟩ := hf _ (List.getElem_mem hm') _ _ e3
    refine ⟨ts ++ [t], ?_, by rw [List.take_succ_eq_append_getElem hm', List.map_append, List.map_append, hst]; show _ ++ [strip t] = _ ++ [strip ps[m]]; rw [hst2]⟩
    show bindR (partsP f m k) _ = _
    rw [bindR_of h, bindR_of ht, List.take_succ_eq_append_getElem hm', encs_app]
    simp only [encs, List.append_nil, List.length_append]
    rw [Nat.add_assoc]
theorem node_of {xs : List Int} {hs : List (Int × Int)} {bx : Int} : ∀ {f : Nat} {t : Nd} {k : Nat} {r : List Int}, OkN hs bx f t → xs.drop k = enc t ++ r → ∃ t', nodeP xs hs bx f k = .ok (t', k + (enc t).length) ∧ strip t' = strip t
  | 0, t, _, _, h, _ => by cases t; exact h.elim
  | f + 1, .mk kind pl ns ps, k, r, h, e => by
    obtain ⟨h0, h1, ho, hp⟩ := h
    have e : xs.drop k = kind :: (ns ++ encs ps ++ r) := by simpa [enc] using e
    obtain ⟨e1, e2⟩ := at_drop e
    rw [List.append_assoc] at e2
    have e3 := drop_app e2
    obtain ⟨ts, h3, hst⟩ := parts_of (f := nodeP xs hs bx f) (fun p hm k r hk => node_of (hp p hm) hk) e3 ps.length (Nat.le_refl _)
    rw [List.take_length] at hst
    refine ⟨.mk kind k ns ts, ?_, by show Nd.mk kind 0 ns (strips ts) = .mk kind 0 ns (strips ps); rw [strips_map, strips_map, hst]⟩
    unfold nodeP
    rw [bindR_of (withinP_of e1 h0 h1), bindR_of (ownP_of ho e2)]
    rw [List.take_length] at h3
    have h3' : partsP (nodeP xs hs bx f) ((ps.length : Int).toNat) (k + 1 + ns.length) = .ok (ts, k + 1 + ns.length + (encs ps).length) := by rw [Int.toNat_natCast]; exact h3
    show bindR (partsP (nodeP xs hs bx f) ((ps.length : Int).toNat) (k + 1 + ns.length)) _ = _
    rw [bindR_of h3']
    simp only [enc, List.length_cons, List.length_append]
    congr 2
    omega
def flat (hs : List (Int × Int)) : List Int := hs.flatMap fun h => [h.1, h.2]
theorem flat_len (hs : List (Int × Int)) : (flat hs).length = 2 * hs.length := by
  induction hs with
  | nil => rfl
  | cons h hs ih => show ((h.1 :: h.2 :: flat hs)).length = _; rw [List.length_cons, List.length_cons, ih, List.length_cons]; omega
theorem flat_app (a b : List (Int × Int)) : flat (a ++ b) = flat a ++ flat b := List.flatMap_append
theorem flat_at : ∀ {hs : List (Int × Int)} {i : Nat} {h : Int × Int} {r : List Int}, hs[i]? = some h → (flat hs ++ r)[2 * i]? = some h.1 ∧ (flat hs ++ r)[2 * i + 1]? = some h.2
  | h :: hs, 0, _, r, e => by cases e; exact ⟨rfl, rfl⟩
  | x :: hs, i + 1, h, r, e => by
    have := flat_at (hs := hs) (i := i) (r := r) (by simpa using e)
    have e2 : flat (x :: hs) ++ r = x.1 :: x.2 :: (flat hs ++ r) := rfl
    rw [e2, show 2 * (i + 1) = 2 * i + 1 + 1 by omega]
    exact this
theorem heads_of {hs : List (Int × Int)} {r : List Int} (H : HeadsOK hs) : ∀ i, i ≤ hs.length → headsL ((hs.length : Int) :: (flat hs ++ r)) i = .ok (hs.take i)
  | 0, _ => rfl
  | i + 1, hi => by
    have hi' : i < hs.length := by omega
    have eh : hs[i]? = some hs[i] := List.getElem?_eq_getElem hi'
    obtain ⟨a0, a1, a2, a3⟩ := H.2.2 i _ eh
    have f := flat_at (r := r) eh
    unfold headsL
    rw [bindR_of (heads_of H i (by omega)), bindR_of (withinP_of (v := hs[i].1) (by rw [show 1 + 2 * i = 2 * i + 1 by omega]; exact f.1) a0 a1),
      bindR_of (withinP_of (v := hs[i].2) (by rw [show 2 + 2 * i = 2 * i + 1 + 1 by omega]; exact f.2) a2 a3), List.take_succ_eq_append_getElem hi']
theorem headsP_of {hs : List (Int × Int)} {r : List Int} (H : HeadsOK hs) : headsP ((hs.length : Int) :: (flat hs ++ r)) = .ok hs := by
  have := H.1
  have := H.2.1
  unfold headsP
  rw [bindR_of (withinP_of (v := (hs.length : Int)) rfl (by omega) (by omega)), Int.toNat_natCast, heads_of H _ (Nat.le_refl _), List.take_length]
theorem bodies_of {xs : List Int} {hs : List (Int × Int)} {k : Nat} {ts : List Nd} (hl : ts.length = hs.length) (ho : ∀ (i : Nat) (h : Int × Int) (t : Nd), hs[i]? = some h → ts[i]? = some t → OkN hs h.2 10 t) (e : xs.drop k = encs ts) :
    ∀ m, m ≤ hs.length → ∃ bs, bodiesP xs hs m k = .ok (bs, k + (encs (ts.take m)).length) ∧ bs.map strip = (ts.take m).map strip
  | 0, _ => ⟨[], rfl, rfl⟩
  | m + 1, hm => by
    obtain ⟨bs, h, hst⟩ := bodies_of hl ho e m (by omega)
    have hm' : m < hs.length := by omega
    have hmt : m < ts.length := by omega
    have eh : hs[m]? = some hs[m] := List.getElem?_eq_getElem hm'
    have e1 : ts = ts.take m ++ ts[m] :: ts.drop (m + 1) := by rw [← List.drop_eq_getElem_cons hmt, List.take_append_drop]
    have e2 : encs ts = encs (ts.take m) ++ (enc ts[m] ++ encs (ts.drop (m + 1))) := by
      conv => lhs; rw [e1]
      rw [encs_app]; rfl
    have e3 : xs.drop k = encs (ts.take m) ++ (enc ts[m] ++ encs (ts.drop (m + 1))) := by rw [e, e2]
    obtain ⟨t, ht, hst2⟩ := node_of (ho m _ _ eh (List.getElem?_eq_getElem hmt)) (drop_app e3)
    have ed : hs.getD m (0, 0) = hs[m] := by rw [List.getD_eq_getElem?_getD, eh]; rfl
    refine ⟨bs ++ [t], ?_, by rw [List.take_succ_eq_append_getElem hmt, List.map_append, List.map_append, hst]; show _ ++ [strip t] = _ ++ [strip ts[m]]; rw [hst2]⟩
    unfold bodiesP
    rw [bindR_of h, ed, bindR_of ht, List.take_succ_eq_append_getElem hmt, encs_app]
    simp only [encs, List.append_nil, List.length_append]
    rw [Nat.add_assoc]
theorem sheet_ofS {hs : List (Int × Int)} {ts : List Nd} (H : HeadsOK hs) (hl : ts.length = hs.length) (ho : ∀ (i : Nat) (h : Int × Int) (t : Nd), hs[i]? = some h → ts[i]? = some t → OkN hs h.2 10 t) : ∃ bs, funsP ((hs.length : Int) :: (flat hs ++ encs ts)) = .ok (hs, bs) ∧ bs.map strip = ts.map strip := by
  have e : ((hs.length : Int) :: (flat hs ++ encs ts)).drop (1 + 2 * hs.length) = encs ts := by
    rw [Nat.add_comm, List.drop_succ_cons, ← flat_len hs, List.drop_left]
  obtain ⟨bs, h, hst⟩ := bodies_of hl ho e hs.length (Nat.le_refl _)
  rw [← hl, List.take_length] at hst
  refine ⟨bs, ?_, hst⟩
  unfold funsP
  rw [bindR_of (headsP_of H), bindR_of h, if_neg ?_]
  rw [← hl, List.take_length, hl]
  simp only [List.length_cons, List.length_append, flat_len]
  omega
theorem sheet_of {hs : List (Int × Int)} {ts : List Nd} (H : HeadsOK hs) (hl : ts.length = hs.length) (ho : ∀ (i : Nat) (h : Int × Int) (t : Nd), hs[i]? = some h → ts[i]? = some t → OkN hs h.2 10 t) : ∃ bs, funsP ((hs.length : Int) :: (flat hs ++ encs ts)) = .ok (hs, bs) := by
  obtain ⟨bs, h, _⟩ := sheet_ofS H hl ho
  exact ⟨bs, h⟩

/-! ### programs written as words, read back -/
abbrev Nms := List (Str × List Str)
def strI (v : Int) : Str := Str.ofString (toString v)
theorem strI_ls (v : Int) : (strI v).cps.toList = sgI v := str_int v
theorem FIG_ls : FIG.cps.toList = [48, 49, 50, 51, 52, 53, 54, 55, 56, 57] := by decide +kernel
theorem LET_mem {c : Nat} (h : c ∈ LET.cps.toList) : 97 ≤ c ∧ c ≤ 122 := by
  have : ∀ c ∈ LET.cps.toList, 97 ≤ c ∧ c ≤ 122 := by decide +kernel
  exact this c h
theorem isOf_of {w sg : Str} {m : Int} (h1 : w.cps.toList ≠ []) (h2 : (w.cps.toList.length : Int) ≤ m) (h3 : ∀ c ∈ w.cps.toList, c ∈ sg.cps.toList) : isOf w sg m = true := by
  unfold isOf
  rw [len_ls]
  have : 1 ≤ w.cps.toList.length := Nat.pos_of_ne_zero fun z => h1 (List.eq_nil_of_length_eq_zero z)
  simp only [Bool.and_eq_true, decide_eq_true_eq, List.all_eq_true]
  exact ⟨by omega, h2, h3⟩
theorem figs_str (v : Int) : figsW (strI v) = ofL (TL.numL v.natAbs) := by
  have e := strI_ls v
  unfold sgI at e
  by_cases c : v < 0
  · rw [if_pos c] at e
    rw [(figsW_is (strI v)).1 (by rw [e]; rfl), e]
    rfl
  · rw [if_neg c] at e
    have : (strI v).cps.toList.head? ≠ some 45 := by
      rw [e]
      intro z
      have := TL.numL_digits v.natAbs 45 (List.mem_of_mem_head? z)
      omega
    rw [(figsW_is (strI v)).2 this, ← e]
    rfl
theorem isNumM_str {v : Int} {k : Nat} (hk : 0 < k) (h : v.natAbs < 10 ^ k) : isNumM (strI v) (k : Int) = true := by
  unfold isNumM
  rw [figs_str, ls_ofL]
  have h1 : isOf (ofL (TL.numL v.natAbs)) FIG (k : Int) = true := isOf_of (by rw [ls_ofL]; exact TL.numL_ne _) (by rw [ls_ofL]; have := TL.numL_len hk h; omega) (fun c hc => by
    rw [ls_ofL] at hc
    have := TL.numL_digits _ c hc
    rw [FIG_ls]
    simp only [List.mem_cons, List.not_mem_nil, or_false]
    omega)
  rw [h1, Bool.true_and, Bool.or_eq_true]
  by_cases z : v.natAbs = 0
  · right
    have : v = 0 := by omega
    subst this
    decide +kernel
  · left
    obtain ⟨d, r, e, d1, d2⟩ := numL_head z
    rw [e]
    simp
    omega
theorem numT_str {v : Int} (h : v.natAbs < 10 ^ 600) : numT (strI v) = v := by
  have e := strI_ls v
  unfold sgI at e
  have l := TL.numL_len (k := 600) (by decide) h
  unfold numT
  by_cases c : v < 0
  · rw [if_pos c] at e
    rw [PySem.intText_neg e (TL.numL_digits _) (TL.numL_ne _) (by rw [len_ls, e, List.length_cons]; omega), TL.numL_val]
    show -((v.natAbs : Nat) : Int) = v
    omega
  · rw [if_neg c] at e
    rw [PySem.intText_digits (by rw [e]; exact TL.numL_digits _) (by rw [e]; exact TL.numL_ne _) (by rw [len_ls, e]; omega), e, TL.numL_val]
    show ((v.natAbs : Nat) : Int) = v
    omega
theorem pow_le600 {n k : Nat} (h : n < 10 ^ k) (hk : k ≤ 600) : n < 10 ^ 600 := Nat.lt_of_lt_of_le h (Nat.pow_le_pow_right (by decide) hk)
theorem isNum_str {v : Int} (h : v.natAbs < 10 ^ 60) : isNum (strI v) = true ∧ numT (strI v) = v := ⟨isNumM_str (k := 60) (by decide) h, numT_str (pow_le600 h (by decide))⟩
theorem isName_parts {w : Str} (h : isName w = true) : w ∉ (["fun", "with", "is"] : List Str) ∧ kindW w = none ∧ w.cps.toList ≠ [] ∧ (w.length : Int) ≤ 8 ∧ ∀ c ∈ w.cps.toList, 97 ≤ c ∧ c ≤ 122 := by
  unfold isName at h
  obtain ⟨h1, h2⟩ := Bool.and_eq_true_iff.mp h
  obtain ⟨a, b, c⟩ := isOf_parts h2
  simp only [Bool.not_eq_true', Bool.or_eq_false_iff, decide_eq_false_iff_not] at h1
  exact ⟨h1.1, by simpa using h1.2, a, b, fun x hx => LET_mem (c x hx)⟩
theorem isName_num {w : Str} (h : isName w = true) : ∀ m, isNumM w m = false := fun m => by
  obtain ⟨_, _, a, _, c⟩ := isName_parts h
  cases e : isNumM w m with
  | false => rfl
  | true =>
    exfalso
    unfold isNumM at e
    obtain ⟨f1, _, f3⟩ := isOf_parts (Bool.and_eq_true_iff.mp e).1
    have hd : w.cps.toList.head? ≠ some 45 := fun z => by have := c 45 (List.mem_of_mem_head? z); omega
    rw [(figsW_is w).2 hd] at f1 f3
    cases q : w.cps.toList with
    | nil => exact a q
    | cons x r =>
      have h1 := c x (by rw [q]; exact List.mem_cons_self)
      have h2 := FIG_mem (f3 x (by rw [q]; exact List.mem_cons_self))
      omega
def wordK (k : Int) : Str := WD.getD (k - 2).toNat ""
theorem wordK_all : ∀ i : _root_.Fin 18, kindW (WD.getD i.val "") = some ((i.val : Int) + 2) ∧ isNum (WD.getD i.val "") = false ∧ WD.getD i.val "" ≠ ("fun" : Str) ∧ (WD.getD i.val "" ≠ ("with" : Str) ∧ WD.getD i.val "" ≠ ("is" : Str)) := by decide +kernel
theorem wordK_is {k : Int} (h2 : 2 ≤ k) (h19 : k ≤ 19) : kindW (wordK k) = some k ∧ isNum (wordK k) = false ∧ wordK k ≠ ("fun" : Str) ∧ (wordK k ≠ ("with" : Str) ∧ wordK k ≠ ("is" : Str)) := by
  obtain ⟨i, rfl⟩ : ∃ i : Nat, k = (i : Int) + 2 := ⟨(k - 2).toNat, by omega⟩
  have := wordK_all ⟨i, by omega⟩
  have e : wordK ((i : Int) + 2) = WD.getD i "" := by unfold wordK; rw [show ((i : Int) + 2 - 2).toNat = i by omega]
  rw [e]
  exact this
theorem num_words : isNum "fun" = false ∧ isNum "with" = false ∧ isNum "is" = false := by decide +kernel
def headW (nm : Nms) (bx : List Str) (k v : Int) : List Str :=
  if k = 0 then [strI v] else if k = 1 then [bx.getD v.toNat ""] else
  wordK k :: (if k = 2 then [bx.getD v.toNat ""] else if k = 3 ∨ k = 4 then [strI v] else if k = 6 then [(nm.getD v.toNat ("", [])).1] else [])
mutual
def wordsN (nm : Nms) (bx : List Str) : Nd → List Str
  | .mk k _ ns ps => headW nm bx k (ns.headD 0) ++ wordsNs nm bx ps
def wordsNs (nm : Nms) (bx : List Str) : List Nd → List Str
  | [] => []
  | n :: ns => wordsN nm bx n ++ wordsNs nm bx ns
end
theorem wordsNs_app (nm : Nms) (bx : List Str) : ∀ a b : List Nd, wordsNs nm bx (a ++ b) = wordsNs nm bx a ++ wordsNs nm bx b
  | [], b => rfl
  | x :: a, b => by show wordsN nm bx x ++ wordsNs nm bx (a ++ b) = _; rw [wordsNs_app nm bx a b, ← List.append_assoc]; rfl
/-- names that fit -/
structure NmOK (nm : Nms) (hs : List (Int × Int)) : Prop where
  l : nm.length = hs.length
  n : ∀ x ∈ nm, isName x.1 = true ∧ (∀ w ∈ x.2, isName w = true) ∧ x.2.Nodup
  d : (nm.map (·.1)).Nodup
  b : ∀ (i : Nat) (x : Str × List Str) (h : Int × Int), nm[i]? = some x → hs[i]? = some h → (x.2.length : Int) = h.2
theorem atw_drop {α : Type} {xs : List α} {k : Nat} {a : α} {r : List α} (h : xs.drop k = a :: r) : xs[k]? = some a ∧ xs.drop (k + 1) = r := by
  constructor
  · have := congrArg (·[0]?) h
    simpa using this
  · have := congrArg (List.drop 1) h
    rw [List.drop_drop] at this
    simpa using this
theorem dropw_app {α : Type} {xs a r : List α} {k : Nat} (h : xs.drop k = a ++ r) : xs.drop (k + a.length) = r := by
  have := congrArg (List.drop a.length) h
  rw [List.drop_drop] at this
  simpa using this
theorem dueW_of {fit : Str → Bool} {ws r : List Str} {k : Nat} {w : Str} (h : ws.drop k = w :: r) (hf : fit w = true) : dueW fit ws k = .ok (w, k + 1) := by
  unfold dueW
  rw [(atw_drop h).1]
  exact if_pos hf
theorem boxW_of {bx : List Str} {i : Nat} {w : Str} (hn : bx.Nodup) (h : bx[i]? = some w) : boxW w bx = (i : Int) := by
  obtain ⟨j, e, e1, e2⟩ := boxW_at (List.mem_of_getElem? h)
  rw [e]
  have : j = i := by
    obtain ⟨hi, a⟩ := List.getElem?_eq_some_iff.mp h
    obtain ⟨hj, b⟩ := List.getElem?_eq_some_iff.mp e1
    exact (List.getElem_inj hn).mp (b.trans a.symm)
  rw [this]
theorem getD_of {α : Type} {l : List α} {i : Nat} {x d : α} (h : l[i]? = some x) : l.getD i d = x := by rw [List.getD_eq_getElem?_getD, h]; rfl
/-- the table of heads fits -/
def HdOK (hd : Hds) (nm : Nms) (hs : List (Int × Int)) : Prop := ∀ (i : Nat) (x : Str × List Str) (h : Int × Int), nm[i]? = some x → hs[i]? = some h → hdOf hd x.1 = some ((i : Int), h.1)
theorem parts_words {ws : List Str} {f : Nat → Rt (List Int × Nat)} {nm : Nms} {bx : List Str} {k : Nat} {ps : List Nd} {r : List Str} (hf : ∀ p ∈ ps, ∀ k r, ws.drop k = wordsN nm bx p ++ r → f k = .ok (enc p, k + (wordsN nm bx p).length)) (e : ws.drop k = wordsNs nm bx ps ++ r) :
    ∀ m, m ≤ ps.length → partsW f m k = .ok (encs (ps.take m), k + (wordsNs nm bx (ps.take m)).length)
  | 0, _ => rfl
  | m + 1, hm => by
    have h := parts_words hf e m (by omega)
    have hm' : m < ps.length := by omega
    have e1 : ps = ps.take m ++ ps[m] :: ps.drop (m + 1) := by rw [← List.drop_eq_getElem_cons hm', List.take_append_drop]
    have e2 : wordsNs nm bx ps = wordsNs nm bx (ps.take m) ++ (wordsN nm bx ps[m] ++ wordsNs nm bx (ps.drop (m + 1))) := by
      conv => lhs; rw [e1]
      rw [wordsNs_app]; rfl
    rw [e2, List.append_assoc] at e
    have e3 := dropw_app e
    rw [List.append_assoc] at e3
    have ht := hf _ (List.getElem_mem hm') _ _ e3
    show bindT (partsW f m k) _ = _
    rw [bindT_of h, bindT_of ht, List.take_succ_eq_append_getElem hm', encs_app, wordsNs_app]
    simp only [encs, wordsNs, List.append_nil, List.length_append]
    rw [Nat.add_assoc]
theorem node_words {ws : List Str} {hd : Hds} {nm : Nms} {hs : List (Int × Int)} {bx : List Str} (N : NmOK nm hs) (D : HdOK hd nm hs) (hb : ∀ w ∈ bx, isName w = true) (hn : bx.Nodup) :
    ∀ {f : Nat} {t : Nd} {k : Nat} {r : List Str}, OkN hs (bx.length : Int) f t → (∀ x ∈ enc t, x.natAbs < 10 ^ 60) → ws.drop k = wordsN nm bx t ++ r → nodeW ws hd bx f k = .ok (enc t, k + (wordsN nm bx t).length)
  | 0, t, _, _, h, _, _ => by cases t; exact h.elim
  | f + 1, .mk kind pl ns ps, k, r, h, hx, e => by
    obtain ⟨h0, h1, ho, hp⟩ := h
    have e : ws.drop k = headW nm bx kind (ns.headD 0) ++ (wordsNs nm bx ps ++ r) := by rw [← List.append_assoc]; exact e
    have hx0 : ∀ x ∈ ns, x.natAbs < 10 ^ 60 := fun x hxx => hx x (by show x ∈ kind :: (ns ++ encs ps); simp [hxx])
    have notin : ∀ {w : Str}, isName w = false → w ∉ bx := fun z hm => by rw [hb _ hm] at z; cases z
    have numNot : ∀ {v : Int}, v.natAbs < 10 ^ 60 → strI v ∉ bx := fun {v} hv hm => by
      have a := isName_num (hb _ hm) 60
      rw [show isNumM (strI v) 60 = true from (isNum_str hv).1] at a; cases a
    show bindT (dueW (isNodeW bx) ws k) _ = _
    have lenE : ∀ (a : List Str), (a ++ wordsNs nm bx ps).length = a.length + (wordsNs nm bx ps).length := fun a => List.length_append
    by_cases k0 : kind = 0
    · subst k0
      rcases ho with ⟨_, pm, v, rfl⟩ | ⟨⟨h, _⟩ | ⟨h, _⟩, _⟩ | ⟨h, _⟩ | ⟨h, _⟩ | ⟨h, _⟩ | ⟨h, _⟩ | ⟨h, _⟩ <;> first | (exfalso; omega) | skip
      cases ps with
      | cons _ _ => cases pm
      | nil =>
        have hv := hx0 v (List.mem_singleton.mpr rfl)
        obtain ⟨n1, n2⟩ := isNum_str hv
        have e : ws.drop k = strI v :: r := e
        rw [bindT_of (dueW_of e (by unfold isNodeW; rw [n1]; simp))]
        dsimp only
        rw [if_neg (numNot hv), if_pos n1, n2]
        rfl
    by_cases k1 : kind = 1
    · subst k1
      rcases ho with ⟨h, _⟩ | ⟨⟨_, pm⟩ | ⟨h, _⟩, v, rfl, v0, v1⟩ | ⟨h, _⟩ | ⟨h, _⟩ | ⟨h, _⟩ | ⟨h, _⟩ | ⟨h, _⟩ <;> first | (exfalso; omega) | skip
      cases ps with
      | cons _ _ => cases pm
      | nil =>
        have hv : v.toNat < bx.length := by omega
        have eb : bx[v.toNat]? = some bx[v.toNat] := List.getElem?_eq_getElem hv
        have e : ws.drop k = bx.getD v.toNat "" :: r := e
        have em : bx.getD v.toNat "" = bx[v.toNat] := getD_of eb
        rw [bindT_of (dueW_of e (by unfold isNodeW; rw [em]; simp))]
        dsimp only
        rw [if_pos (by rw [em]; exact List.getElem_mem hv), em, boxW_of hn eb, Int.toNat_of_nonneg v0]
        rfl
    have k2 : 2 ≤ kind := by omega
    obtain ⟨w1, w2, w3, w4⟩ := wordK_is k2 h1
    have wn : isName (wordK kind) = false := by unfold isName; rw [w1]; simp
    have eh : headW nm bx kind (ns.headD 0) = wordK kind :: (headW nm bx kind (ns.headD 0)).tail := by unfold headW; rw [if_neg k0, if_neg k1]; rfl
    generalize et : (headW nm bx kind (ns.headD 0)).tail = tl at eh
    have et : tl = (if kind = 2 then [bx.getD (ns.headD 0).toNat ""] else if kind = 3 ∨ kind = 4 then [strI (ns.headD 0)] else if kind = 6 then [(nm.getD (ns.headD 0).toNat ("", [])).1] else []) := by
      rw [← et]; unfold headW; rw [if_neg k0, if_neg k1]; rfl
    rw [eh] at e
    have e1 : ws.drop k = wordK kind :: (tl ++ (wordsNs nm bx ps ++ r)) := e
    rw [bindT_of (dueW_of e1 (by unfold isNodeW; rw [w1]; simp))]
    dsimp only
    rw [if_neg (notin wn), if_neg (by rw [w2]; decide), w1]
    dsimp only
    have e2 := (atw_drop e1).2
    have own : ownW ws hd bx kind (k + 1) = .ok (ns, (ps.length : Int), k + 1 + tl.length) := by
      unfold ownW
      rcases ho with ⟨h, _⟩ | ⟨⟨h, _⟩ | ⟨h2, pm⟩, v, rfl, v0, v1⟩ | ⟨h3, m1, m2, rfl⟩ | ⟨h4, v, rfl, v0, v1, pm⟩ | ⟨h6, v, h, rfl, ehs, pm⟩ | ⟨h5, pm, rfl⟩ | ⟨h7, rfl, pm⟩
      · exact absurd h k0
      · exact absurd h k1
      · have hv : v.toNat < bx.length := by omega
        have eb : bx[v.toNat]? = some bx[v.toNat] := List.getElem?_eq_getElem hv
        have em : bx.getD v.toNat "" = bx[v.toNat] := getD_of eb
        rw [if_pos h2] at et
        rw [if_pos h2]
        subst et
        have e2 : ws.drop (k + 1) = bx.getD v.toNat "" :: (wordsNs nm bx ps ++ r) := e2
        rw [bindT_of (dueW_of e2 (by rw [em]; simp))]
        dsimp only
        rw [em, boxW_of hn eb, Int.toNat_of_nonneg v0, pm]
        rfl
      · have hm : ((ps.length : Int)).natAbs < 10 ^ 60 := hx0 _ (List.mem_singleton.mpr rfl)
        obtain ⟨n1, n2⟩ := isNum_str hm
        rw [if_neg (by omega), if_pos (.inl h3)] at et
        rw [if_neg (by omega), if_pos h3]
        subst et
        have e2 : ws.drop (k + 1) = strI (ps.length : Int) :: (wordsNs nm bx ps ++ r) := e2
        rw [bindT_of (dueW_of e2 (by rw [n1, n2]; simp; omega))]
        dsimp only
        rw [n2]
        rfl
      · have hm : ((v : Int)).natAbs < 10 ^ 60 := hx0 _ (List.mem_singleton.mpr rfl)
        obtain ⟨n1, n2⟩ := isNum_str hm
        rw [if_neg (by omega), if_pos (.inr h4)] at et
        rw [if_neg (by omega), if_neg (by omega), if_pos h4]
        subst et
        have e2 : ws.drop (k + 1) = strI (v : Int) :: (wordsNs nm bx ps ++ r) := e2
        rw [bindT_of (dueW_of e2 (by rw [n1, n2]; simp; omega))]
        dsimp only
        rw [n2, pm]
        rfl
      · have hv : v < nm.length := by rw [N.l]; exact (List.getElem?_eq_some_iff.mp ehs).1
        have en : nm[v]? = some nm[v] := List.getElem?_eq_getElem hv
        have hd1 := D v _ _ en ehs
        have ed : nm.getD ((v : Int)).toNat ("", []) = nm[v] := by rw [Int.toNat_natCast]; exact getD_of en
        rw [if_neg (by omega), if_neg (by omega), if_pos h6] at et
        rw [if_neg (by omega), if_neg (by omega), if_neg (by omega), if_pos h6]
        subst et
        have e2 : ws.drop (k + 1) = (nm.getD ((v : Int)).toNat ("", [])).1 :: (wordsNs nm bx ps ++ r) := e2
        rw [ed] at e2
        rw [bindT_of (dueW_of e2 (by rw [(N.n _ (List.getElem_mem hv)).1, hd1]; rfl))]
        dsimp only
        rw [hd1, pm]
        rfl
      · rw [if_neg (by omega), if_neg (by omega), if_neg (by omega)] at et
        rw [if_neg (by omega), if_neg (by omega), if_neg (by omega), if_neg (by omega), if_pos h5, pm]
        subst et
        rfl
      · rw [if_neg (by omega), if_neg (by omega), if_neg (by omega)] at et
        rw [if_neg (by omega), if_neg (by omega), if_neg (by omega), if_neg (by omega), if_neg (by omega), pm]
        subst et
        rfl
    rw [bindT_of own]
    dsimp only
    have e3 := dropw_app e2
    have hps := parts_words (f := nodeW ws hd bx f) (fun p hm k r hk => node_words N D hb hn (hp p hm) (fun x hxx => hx x (by
      show x ∈ kind :: (ns ++ encs ps)
      refine List.mem_cons_of_mem _ (List.mem_append_right _ ?_)
      exact encs_in hm hxx)) hk) e3 ps.length (Nat.le_refl _)
    rw [List.take_length] at hps
    rw [Int.toNat_natCast, bindT_of hps]
    show Except.ok (kind :: ns ++ encs ps, k + 1 + tl.length + (wordsNs nm bx ps).length) = .ok (kind :: (ns ++ encs ps), k + (headW nm bx kind (ns.headD 0) ++ wordsNs nm bx ps).length)
    rw [eh, lenE, List.length_cons]
    congr 2
    omega
where
  encs_in {l : List Nd} {n : Nd} {x : Int} (h : n ∈ l) (hx : x ∈ enc n) : x ∈ encs l := by
    induction l with
    | nil => cases h
    | cons a l ih =>
      show x ∈ enc a ++ encs l
      rcases List.mem_cons.mp h with e | e
      · rw [← e]; exact List.mem_append_left _ hx
      · exact List.mem_append_right _ (ih e)
/-! #### a whole program -/
def funW (all : Nms) (h : Int × Int) (n : Str × List Str) (b : Nd) : List Str := ("fun" : Str) :: n.1 :: (n.2.take h.1.toNat ++ ("with" : Str) :: (n.2.drop h.1.toNat ++ ("is" : Str) :: wordsN all n.2 b))
def progW (all : Nms) : List (Int × Int) → Nms → List Nd → List Str
  | h :: hs, n :: ns, b :: bs => funW all h n b ++ progW all hs ns bs
  | _, _, _ => []
/-- what goes together -/
inductive Al : List (Int × Int) → Nms → List Nd → Prop where
  | nil : Al [] [] []
  | cons {h : Int × Int} {n : Str × List Str} {b : Nd} {hs ns bs} : Al hs ns bs → Al (h :: hs) (n :: ns) (b :: bs)
theorem Al.of : ∀ {hs : List (Int × Int)} {ns : Nms} {bs : List Nd}, ns.length = hs.length → bs.length = hs.length → Al hs ns bs
  | [], [], [], _, _ => .nil
  | _ :: _, _ :: _, _ :: _, h1, h2 => .cons (Al.of (by simpa using h1) (by simpa using h2))
  | [], _ :: _, _, h, _ => by cases h
  | [], [], _ :: _, _, h => by cases h
  | _ :: _, [], _, h, _ => by cases h
  | _ :: _, _ :: _, [], _, h => by cases h
theorem name_ne {w : Str} (h : isName w = true) : w ≠ ("fun" : Str) ∧ w ≠ ("with" : Str) ∧ w ≠ ("is" : Str) := by
  have := (isName_parts h).1
  simp only [List.mem_cons, List.not_mem_nil, or_false, not_or] at this
  exact this
theorem num_ne {w : Str} (h : isNum w = true) : w ≠ ("fun" : Str) ∧ w ≠ ("with" : Str) := by
  obtain ⟨a, b, c⟩ := num_words
  exact ⟨fun z => (by rw [z, a] at h; cases h), fun z => (by rw [z, b] at h; cases h)⟩
/-- a body's words are no fun -/
theorem words_ne {nm : Nms} {hs : List (Int × Int)} {bx : List Str} (N : NmOK nm hs) (hb : ∀ w ∈ bx, isName w = true) : ∀ {f : Nat} {t : Nd}, OkN hs (bx.length : Int) f t → (∀ x ∈ enc t, x.natAbs < 10 ^ 60) → wordsN nm bx t ≠ [] ∧ ∀ w ∈ wordsN nm bx t, w ≠ ("fun" : Str)
  | 0, .mk _ _ _ _, h, _ => h.elim
  | f + 1, .mk kind pl ns ps, h, hx => by
    obtain ⟨h0, h1, ho, hp⟩ := h
    have hx0 : ∀ x ∈ ns, x.natAbs < 10 ^ 60 := fun x hxx => hx x (by show x ∈ kind :: (ns ++ encs ps); simp [hxx])
    have bxn : ∀ v : Int, 0 ≤ v → v < bx.length → bx.getD v.toNat "" ≠ ("fun" : Str) := fun v v0 v1 => by
      have hv : v.toNat < bx.length := by omega
      rw [getD_of (List.getElem?_eq_getElem hv)]
      exact (name_ne (hb _ (List.getElem_mem hv))).1
    refine ⟨fun z => ?_, fun w hw => ?_⟩
    · have := List.append_eq_nil_iff.mp (show headW nm bx kind (ns.headD 0) ++ wordsNs nm bx ps = [] from z)
      have e := this.1
      unfold headW at e
      repeat' split at e
      all_goals cases e
    · rcases List.mem_append.mp (show w ∈ headW nm bx kind (ns.headD 0) ++ wordsNs nm bx ps from hw) with z | z
      · unfold headW at z
        by_cases k0 : kind = 0
        · rw [if_pos k0] at z
          rcases ho with ⟨_, pm, v, rfl⟩ | ⟨⟨h, _⟩ | ⟨h, _⟩, _⟩ | ⟨h, _⟩ | ⟨h, _⟩ | ⟨h, _⟩ | ⟨h, _⟩ | ⟨h, _⟩ <;> first | (exfalso; omega) | skip
          rw [List.mem_singleton.mp z]
          exact (num_ne (isNum_str (hx0 v (List.mem_singleton.mpr rfl))).1).1
        rw [if_neg k0] at z
        by_cases k1 : kind = 1
        · rw [if_pos k1] at z
          rcases ho with ⟨h, _⟩ | ⟨_, v, rfl, v0, v1⟩ | ⟨h, _⟩ | ⟨h, _⟩ | ⟨h, _⟩ | ⟨h, _⟩ | ⟨h, _⟩ <;> first | (exfalso; omega) | skip
          rw [List.mem_singleton.mp z]
          exact bxn v v0 v1
        rw [if_neg k1] at z
        rcases List.mem_cons.mp z with z | z
        · rw [z]; exact (wordK_is (by omega) h1).2.2.1
        by_cases k2 : kind = 2
        · rw [if_pos k2] at z
          rcases ho with ⟨h, _⟩ | ⟨_, v, rfl, v0, v1⟩ | ⟨h, _⟩ | ⟨h, _⟩ | ⟨h, _⟩ | ⟨h, _⟩ | ⟨h, _⟩ <;> first | (exfalso; omega) | skip
          rw [List.mem_singleton.mp z]
          exact bxn v v0 v1
        rw [if_neg k2] at z
        by_cases k3 : kind = 3 ∨ kind = 4
        · rw [if_pos k3] at z
          have : ∃ v : Int, ns = [v] := by
            rcases ho with ⟨h, _⟩ | ⟨h, _⟩ | ⟨_, _, _, h⟩ | ⟨_, v, h, _⟩ | ⟨h, _⟩ | ⟨h, _⟩ | ⟨h, _⟩ <;> first | exact ⟨_, h⟩ | (exfalso; omega)
          obtain ⟨v, rfl⟩ := this
          rw [List.mem_singleton.mp z]
          exact (num_ne (isNum_str (hx0 v (List.mem_singleton.mpr rfl))).1).1
        rw [if_neg k3] at z
        by_cases k6 : kind = 6
        · rw [if_pos k6] at z
          rcases ho with ⟨h, _⟩ | ⟨h, _⟩ | ⟨h, _⟩ | ⟨h, _⟩ | ⟨_, v, h, rfl, ehs, _⟩ | ⟨h, _⟩ | ⟨h, _⟩ <;> first | (exfalso; omega) | skip
          have hv : v < nm.length := by rw [N.l]; exact (List.getElem?_eq_some_iff.mp ehs).1
          have ed : nm.getD ((v : Int)).toNat ("", []) = nm[v] := by rw [Int.toNat_natCast]; exact getD_of (List.getElem?_eq_getElem hv)
          have z := List.mem_singleton.mp z
          rw [show ([(v : Int)] : List Int).headD 0 = (v : Int) from rfl, ed] at z
          rw [z]
          exact (name_ne (N.n _ (List.getElem_mem hv)).1).1
        · rw [if_neg k6] at z; cases z
      · exact mem_words (P := fun w => w ≠ ("fun" : Str)) (fun p hm w hw => (words_ne N hb (hp p hm) (fun x hxx => hx x (by
          show x ∈ kind :: (ns ++ encs ps)
          exact List.mem_cons_of_mem _ (List.mem_append_right _ (node_words.encs_in hm hxx))))).2 w hw) z
where
  mem_words {nm : Nms} {bx : List Str} {w : Str} {P : Str → Prop} : ∀ {l : List Nd}, (∀ p ∈ l, ∀ w ∈ wordsN nm bx p, P w) → w ∈ wordsNs nm bx l → P w
    | [], _, h => by cases h
    | a :: l, hp, h => by
      rcases List.mem_append.mp (show w ∈ wordsN nm bx a ++ wordsNs nm bx l from h) with z | z
      · exact hp a List.mem_cons_self w z
      · exact mem_words (fun p hm => hp p (List.mem_cons_of_mem _ hm)) z
/-- programs as they must be -/
structure PrgOK (nm : Nms) (hs : List (Int × Int)) (bs : List Nd) : Prop where
  n : NmOK nm hs
  h : HeadsOK hs
  l : bs.length = hs.length
  o : ∀ (i : Nat) (h : Int × Int) (b : Nd), hs[i]? = some h → bs[i]? = some b → OkN hs h.2 10 b
  s : ∀ b ∈ bs, ∀ x ∈ enc b, x.natAbs < 10 ^ 60
theorem headsT_skip {ws : List Str} {k : Nat} : ∀ {m : Nat}, k ≤ m → (∀ j, k ≤ j → j < m → ws[j]? ≠ some ("fun" : Str)) → headsT ws m = headsT ws k
  | 0, h, _ => by rw [Nat.le_zero.mp h]
  | m + 1, h, hj => by
    by_cases c : k = m + 1
    · rw [c]
    · rw [← headsT_skip (m := m) (by omega) fun j a b => hj j a (by omega)]
      show (if ws[m]? = some ("fun" : Str) then _ else headsT ws m) = _
      rw [if_neg (hj m (by omega) (by omega))]
theorem endW_run {ws : List Str} {r : List Str} : ∀ {X : List Str} {f k : Nat}, ws.drop k = X ++ ("with" : Str) :: r → (∀ x ∈ X, x ≠ ("with" : Str)) → X.length ≤ f → endW ws f k = k + X.length
  | [], f, k, h, _, _ => endW_stop ws (fun z => z.2 (atw_drop h).1) f
  | x :: X, 0, k, h, hx, hf => by simp at hf
  | x :: X, f + 1, k, h, hx, hf => by
    obtain ⟨a, b⟩ := atw_drop h
    unfold endW
    rw [if_pos ⟨(List.getElem?_eq_some_iff.mp a).1, by rw [a]; exact fun z => hx x List.mem_cons_self (Option.some.inj z)⟩]
    rw [endW_run (f := f) b (fun y hy => hx y (List.mem_cons_of_mem _ hy)) (by simpa using hf), List.length_cons]
    omega
def entries : Nat → List (Int × Int) → Nms → Hds
  | i, h :: hs, n :: ns => (n.1, ((i : Int), h.1)) :: entries (i + 1) hs ns
  | _, _, _ => []
theorem hdOf_none {w : Str} {hd : Hds} (h : w ∉ hd.map (·.1)) : hdOf hd w = none := by
  induction hd with
  | nil => rfl
  | cons a hd ih =>
    obtain ⟨x, m⟩ := a
    unfold hdOf
    rw [List.lookup_cons, show (w == x) = false by simpa using fun z => h (by rw [z]; exact List.mem_cons_self)]
    exact ih fun z => h (List.mem_cons_of_mem _ z)
theorem hdOf_mem {w : Str} {m : Int × Int} : ∀ {hd : Hds}, (hd.map (·.1)).Nodup → (w, m) ∈ hd → hdOf hd w = some m
  | (x, v) :: hd, hn, h => by
    unfold hdOf
    rw [List.lookup_cons]
    rcases List.mem_cons.mp h with e | e
    · cases e
      rw [show (w == w) = true by simp]
    · have hx : w ≠ x := fun z => by
        have := (List.nodup_cons.mp hn).1
        exact this (by rw [← z]; exact List.mem_map.mpr ⟨_, e, rfl⟩)
      rw [show (w == x) = false by simpa using hx]
      exact hdOf_mem (List.nodup_cons.mp hn).2 e
theorem entries_map : ∀ {i : Nat} {hs : List (Int × Int)} {ns : Nms}, ns.length = hs.length → (entries i hs ns).map (·.1) = ns.map (·.1)
  | i, [], [], _ => rfl
  | i, h :: hs, n :: ns, e => by show n.1 :: (entries (i + 1) hs ns).map (·.1) = _; rw [entries_map (by simpa using e)]; rfl
  | _, [], _ :: _, h => by cases h
  | _, _ :: _, [], h => by cases h
theorem entries_mem : ∀ {i j : Nat} {hs : List (Int × Int)} {ns : Nms} {h : Int × Int} {n : Str × List Str}, hs[j]? = some h → ns[j]? = some n → (n.1, (((i + j : Nat) : Int), h.1)) ∈ entries i hs ns
  | i, 0, h :: hs, n :: ns, _, _, e1, e2 => by cases e1; cases e2; exact List.mem_cons_self
  | i, j + 1, h :: hs, n :: ns, h', n', e1, e2 => by
    have := entries_mem (i := i + 1) (j := j) (hs := hs) (ns := ns) (by simpa using e1) (by simpa using e2)
    rw [show i + (j + 1) = i + 1 + j by omega]
    exact List.mem_cons_of_mem _ this
/-- the function's head and the rest of it -/
theorem fun_ne {all : Nms} {hs : List (Int × Int)} {h : Int × Int} {n : Str × List Str} {b : Nd} (N : NmOK all hs) (hn : isName n.1 = true) (hb : ∀ w ∈ n.2, isName w = true) (hl : (n.2.length : Int) = h.2) (ho : OkN hs h.2 10 b) (hs : ∀ x ∈ enc b, x.natAbs < 10 ^ 60) :
    ∀ w ∈ (funW all h n b).tail, w ≠ ("fun" : Str) := by
  rw [← hl] at ho
  intro w hw
  rcases List.mem_cons.mp (show w ∈ n.1 :: (n.2.take h.1.toNat ++ ("with" : Str) :: (n.2.drop h.1.toNat ++ ("is" : Str) :: wordsN all n.2 b)) from hw) with z | z
  · rw [z]; exact (name_ne hn).1
  rcases List.mem_append.mp z with z | z
  · exact (name_ne (hb w (List.mem_of_mem_take z))).1
  rcases List.mem_cons.mp z with z | z
  · rw [z]; decide +kernel
  rcases List.mem_append.mp z with z | z
  · exact (name_ne (hb w (List.mem_of_mem_drop z))).1
  rcases List.mem_cons.mp z with z | z
  · rw [z]; decide +kernel
  · exact (words_ne N hb ho hs).2 w z
theorem heads_prog {ws : List Str} {all : Nms} {HS : List (Int × Int)} (N : NmOK all HS) : ∀ {hs : List (Int × Int)} {ns : Nms} {bs : List Nd}, Al hs ns bs → (∀ n ∈ ns, isName n.1 = true ∧ ∀ w ∈ n.2, isName w = true) → (ns.map (·.1)).Nodup →
    (∀ (i : Nat) (h : Int × Int) (n : Str × List Str) (b : Nd), hs[i]? = some h → ns[i]? = some n → bs[i]? = some b → (n.2.length : Int) = h.2 ∧ 0 ≤ h.1 ∧ h.1 ≤ h.2 ∧ OkN HS h.2 10 b ∧ ∀ x ∈ enc b, x.natAbs < 10 ^ 60) →
    ∀ (k : Nat) (acc : Hds), ws.drop k = progW all hs ns bs → headsT ws k = (acc, (acc.length : Int)) → (∀ n ∈ ns, n.1 ∉ acc.map (·.1)) → headsT ws (k + (progW all hs ns bs).length) = (acc ++ entries acc.length hs ns, ((acc.length + hs.length : Nat) : Int))
  | [], [], [], .nil, _, _, _, k, acc, _, e2, _ => by simpa [progW, entries] using e2
  | h :: hs, n :: ns, b :: bs, .cons A, hn, hd, hb, k, acc, e1, e2, hacc => by
    obtain ⟨b1, b2, b3, b4, b5⟩ := hb 0 h n b rfl rfl rfl
    obtain ⟨n1, n2⟩ := hn n List.mem_cons_self
    have ne := fun_ne (all := all) N n1 n2 b1 b4 b5
    have e1' : ws.drop k = funW all h n b ++ progW all hs ns bs := e1
    have hk : ws[k]? = some ("fun" : Str) := (atw_drop (show ws.drop k = ("fun" : Str) :: _ from e1')).1
    have d1 := (atw_drop (show ws.drop k = ("fun" : Str) :: (n.1 :: (n.2.take h.1.toNat ++ ("with" : Str) :: (n.2.drop h.1.toNat ++ ("is" : Str) :: wordsN all n.2 b)) ++ progW all hs ns bs) from e1')).2
    have d2 := (atw_drop (show ws.drop (k + 1) = n.1 :: ((n.2.take h.1.toNat ++ ("with" : Str) :: (n.2.drop h.1.toNat ++ ("is" : Str) :: wordsN all n.2 b)) ++ progW all hs ns bs) from d1))
    have lk : k < ws.length := (List.getElem?_eq_some_iff.mp hk).1
    have step : headsT ws (k + 1) = (acc ++ [(n.1, ((acc.length : Int), h.1))], ((acc.length + 1 : Nat) : Int)) := by
      unfold headsT
      rw [if_pos hk, e2]
      dsimp only
      rw [getD_of d2.1, hdOf_none (hacc n List.mem_cons_self), if_neg (by decide)]
      have en := endW_run (f := ws.length) (X := n.2.take h.1.toNat) (r := (n.2.drop h.1.toNat ++ ("is" : Str) :: wordsN all n.2 b) ++ progW all hs ns bs) (k := k + 2) (by rw [d2.2]; simp) (fun x hx => (name_ne (n2 x (List.mem_of_mem_take hx))).2.1) (by
        have := congrArg List.length d2.2
        simp only [List.length_drop, List.length_append, List.length_cons] at this
        omega)
      rw [en, List.length_take, Nat.min_eq_left (by omega)]
      have : ((k + 2 + h.1.toNat : Nat) : Int) - k - 2 = h.1 := by omega
      rw [this]
      rfl
    have sk : headsT ws (k + (funW all h n b).length) = headsT ws (k + 1) := by
      refine headsT_skip (by show k + 1 ≤ k + (_ :: _).length; rw [List.length_cons]; omega) fun j j1 j2 z => ?_
      have hx : (ws.drop k)[j - k]? = some ("fun" : Str) := by rw [List.getElem?_drop, show k + (j - k) = j by omega]; exact z
      rw [e1', List.getElem?_append_left (by omega)] at hx
      have : (funW all h n b).tail[j - k - 1]? = some ("fun" : Str) := by
        show (_ : List Str)[j - k - 1]? = _
        rw [List.getElem?_tail, show j - k - 1 + 1 = j - k by omega]; exact hx
      exact ne _ (List.mem_of_getElem? this) rfl
    have al : (acc ++ [(n.1, ((acc.length : Int), h.1))]).length = acc.length + 1 := by rw [List.length_append]; rfl
    have ih := heads_prog N A (fun m hm => hn m (List.mem_cons_of_mem _ hm)) (List.nodup_cons.mp hd).2 (fun i h n b x y z => hb (i + 1) h n b (by simpa using x) (by simpa using y) (by simpa using z)) (k + (funW all h n b).length) _ (dropw_app e1') (by rw [sk, step, al]) (fun m hm z => by
      rw [List.map_append] at z
      rcases List.mem_append.mp z with z | z
      · exact hacc m (List.mem_cons_of_mem _ hm) z
      · have := List.mem_singleton.mp z
        exact (List.nodup_cons.mp hd).1 (List.mem_map.mpr ⟨m, hm, this⟩))
    rw [al] at ih
    show headsT ws (k + (funW all h n b ++ progW all hs ns bs).length) = _
    rw [List.length_append, ← Nat.add_assoc, ih, List.append_assoc]
    show (acc ++ (_ :: entries (acc.length + 1) hs ns), _) = (acc ++ (_ :: entries (acc.length + 1) hs ns), _)
    rw [List.length_cons, show acc.length + 1 + hs.length = acc.length + (hs.length + 1) by omega]
theorem last_prog {all : Nms} {HS : List (Int × Int)} (N : NmOK all HS) : ∀ {hs : List (Int × Int)} {ns : Nms} {bs : List Nd}, Al hs ns bs → hs ≠ [] → (∀ n ∈ ns, isName n.1 = true ∧ ∀ w ∈ n.2, isName w = true) →
    (∀ (i : Nat) (h : Int × Int) (n : Str × List Str) (b : Nd), hs[i]? = some h → ns[i]? = some n → bs[i]? = some b → (n.2.length : Int) = h.2 ∧ OkN HS h.2 10 b ∧ ∀ x ∈ enc b, x.natAbs < 10 ^ 60) → (progW all hs ns bs).getLast? ≠ some ("fun" : Str)
  | [], _, _, _, h, _, _ => absurd rfl h
  | [h], [n], [b], .cons .nil, _, hn, hb => by
    obtain ⟨b1, b4, b5⟩ := hb 0 h n b rfl rfl rfl
    obtain ⟨n1, n2⟩ := hn n List.mem_cons_self
    have ne := fun_ne (all := all) N n1 n2 b1 b4 b5
    intro z
    have z : (funW all h n b ++ []).getLast? = some ("fun" : Str) := z
    rw [List.append_nil] at z
    have e : funW all h n b = ("fun" : Str) :: (funW all h n b).tail := rfl
    have e2 : (funW all h n b).tail = n.1 :: (funW all h n b).tail.tail := rfl
    rw [e, e2, List.getLast?_cons_cons] at z
    exact ne _ (by rw [e2]; exact List.mem_of_getLast? z) rfl
  | h :: g :: hs, n :: m :: ns, b :: c :: bs, .cons A, _, hn, hb => by
    have ih := last_prog N A (by simp) (fun m hm => hn m (List.mem_cons_of_mem _ hm)) (fun i h n b x y z => hb (i + 1) h n b (by simpa using x) (by simpa using y) (by simpa using z))
    show (funW all h n b ++ progW all (g :: hs) (m :: ns) (c :: bs)).getLast? ≠ _
    rw [List.getLast?_append]
    cases q : (progW all (g :: hs) (m :: ns) (c :: bs)).getLast? with
    | none => exact absurd (List.getLast?_eq_none_iff.mp q) (by show (("fun" : Str) :: _) ++ _ ≠ []; simp)
    | some w => rw [q] at ih; exact ih
theorem PrgOK.al {nm : Nms} {hs : List (Int × Int)} {bs : List Nd} (P : PrgOK nm hs bs) : Al hs nm bs := Al.of P.n.l P.l
theorem PrgOK.all {nm : Nms} {hs : List (Int × Int)} {bs : List Nd} (P : PrgOK nm hs bs) (i : Nat) (h : Int × Int) (n : Str × List Str) (b : Nd) (e1 : hs[i]? = some h) (e2 : nm[i]? = some n) (e3 : bs[i]? = some b) :
    (n.2.length : Int) = h.2 ∧ 0 ≤ h.1 ∧ h.1 ≤ h.2 ∧ OkN hs h.2 10 b ∧ ∀ x ∈ enc b, x.natAbs < 10 ^ 60 := by
  obtain ⟨a0, a1, a2, a3⟩ := P.h.2.2 i h e1
  exact ⟨P.n.b i n h e2 e1, a0, a2, P.o i h b e1 e3, P.s b (List.mem_of_getElem? e3)⟩
/-- the table of heads of a program -/
theorem hd_prog {nm : Nms} {hs : List (Int × Int)} {bs : List Nd} (P : PrgOK nm hs bs) : HdOK (headsW (progW nm hs nm bs)) nm hs := by
  have nn := P.n.n
  have e := heads_prog (ws := progW nm hs nm bs) P.n P.al (fun n hn => ⟨(nn n hn).1, (nn n hn).2.1⟩) P.n.d P.all 0 [] rfl rfl (fun n _ z => by cases z)
  rw [Nat.zero_add, List.nil_append] at e
  have hne : hs ≠ [] := fun z => by have := P.h.1; rw [z] at this; exact absurd this (by decide)
  have la := last_prog P.n P.al hne (fun n hn => ⟨(nn n hn).1, (nn n hn).2.1⟩) (fun i h n b x y z => by obtain ⟨a, _, _, c⟩ := P.all i h n b x y z; exact ⟨a, c⟩)
  have sk := headsT_skip (ws := progW nm hs nm bs) (k := (progW nm hs nm bs).length - 1) (m := (progW nm hs nm bs).length) (by omega) fun j j1 j2 z => by
    have : j = (progW nm hs nm bs).length - 1 := by omega
    rw [this, ← List.getLast?_eq_getElem?] at z
    exact la z
  intro i x h e1 e2
  unfold headsW
  rw [← sk, e]
  refine hdOf_mem (by rw [entries_map P.n.l]; exact P.n.d) ?_
  have := entries_mem (i := 0) e2 e1
  rw [Nat.zero_add] at this
  exact this
theorem boxes_run {ws : List Str} {en : Str} {m : Int} {r : List Str} (he : isName en = false) : ∀ {X bx : List Str} {f k : Nat}, ws.drop k = X ++ en :: r → (∀ x ∈ X, isName x = true) → (bx ++ X).Nodup → ((bx ++ X).length : Int) ≤ m → X.length < f → boxesW ws en m f bx k = .ok (bx ++ X, k + X.length + 1)
  | [], bx, 0, k, _, _, _, _, hf => by simp at hf
  | [], bx, f + 1, k, h, _, _, _, _ => by
    unfold boxesW
    rw [if_pos (atw_drop h).1, List.append_nil]; rfl
  | x :: X, bx, 0, k, _, _, _, _, hf => by simp at hf
  | x :: X, bx, f + 1, k, h, hx, hd, hm, hf => by
    obtain ⟨a, b⟩ := atw_drop (show ws.drop k = x :: (X ++ en :: r) from h)
    have hn := hx x List.mem_cons_self
    unfold boxesW
    rw [if_neg (by rw [a]; intro z; rw [Option.some.inj z, he] at hn; cases hn)]
    rw [if_neg (by rw [List.length_append, List.length_cons] at hm; omega)]
    have nin : x ∉ bx := fun z => (List.nodup_append.mp hd).2.2 x z x List.mem_cons_self rfl
    rw [bindT_of (dueW_of (show ws.drop k = x :: (X ++ en :: r) from h) (by rw [hn, decide_eq_false nin]; rfl))]
    dsimp only
    have e : (bx ++ [x]) ++ X = bx ++ x :: X := by simp
    rw [boxes_run he (X := X) (bx := bx ++ [x]) b (fun y hy => hx y (List.mem_cons_of_mem _ hy)) (by rw [e]; exact hd) (by rw [e]; exact hm) (by simpa using hf), e, List.length_cons]
    congr 2
    omega
theorem with_no : isName "with" = false ∧ isName "is" = false := by decide +kernel
theorem loop_prog {ws : List Str} {hd : Hds} {all : Nms} {HS : List (Int × Int)} (N : NmOK all HS) (D : HdOK hd all HS) : ∀ {hs : List (Int × Int)} {ns : Nms} {bs : List Nd}, Al hs ns bs → (∀ n ∈ ns, isName n.1 = true ∧ (∀ w ∈ n.2, isName w = true) ∧ n.2.Nodup) →
    ∀ (P : Prg), (P.1 = [] → hs ≠ []) → P.1.length + hs.length ≤ 16 → ((P.1.map (·.1)) ++ ns.map (·.1)).Nodup →
    (∀ (i : Nat) (h : Int × Int) (n : Str × List Str) (b : Nd), hs[i]? = some h → ns[i]? = some n → bs[i]? = some b → (n.2.length : Int) = h.2 ∧ 0 ≤ h.1 ∧ h.1 ≤ h.2 ∧ h.1 ≤ (if P.1.length + i = 0 then 0 else 4) ∧ h.2 ≤ 12 ∧ OkN HS h.2 10 b ∧ ∀ x ∈ enc b, x.natAbs < 10 ^ 60) →
    ws.drop P.2.2.2 = progW all hs ns bs → ∀ f, hs.length < f → P.2.2.2 ≤ ws.length → loopW ws hd f P = .ok (P.1 ++ ns, P.2.1 ++ flat hs, P.2.2.1 ++ encs bs, ws.length)
  | [], [], [], .nil, _, P, hP, _, _, _, e, f, hf, hle => by
    obtain ⟨g, rfl⟩ : ∃ g, f = g + 1 := ⟨f - 1, by omega⟩
    have hd0 : ws.drop P.2.2.2 = [] := e
    have : ws.length ≤ P.2.2.2 := List.drop_eq_nil_iff.mp hd0
    have e : P.2.2.2 = ws.length := by omega
    have hne : P.1 ≠ [] := fun z => hP z rfl
    show (if P.1 = [] ∨ P.2.2.2 < ws.length then _ else Except.ok P) = _
    rw [if_neg (by rintro (z | z); exact hne z; omega)]
    obtain ⟨p1, p2, p3, p4⟩ := P
    dsimp only at e ⊢
    rw [e]
    simp [flat, encs]
  | h :: hs, n :: ns, b :: bs, .cons A, hn, P, hP, h16, hdup, hb, e, f, hf, hle => by
    obtain ⟨g, rfl⟩ : ∃ g, f = g + 1 := ⟨f - 1, by omega⟩
    obtain ⟨b1, b2, b3, b6, b7, b4, b5⟩ := hb 0 h n b rfl rfl rfl
    obtain ⟨n1, n2, n3⟩ := hn n List.mem_cons_self
    have e0 : ws.drop P.2.2.2 = ("fun" : Str) :: (n.1 :: ((n.2.take h.1.toNat ++ ("with" : Str) :: (n.2.drop h.1.toNat ++ ("is" : Str) :: wordsN all n.2 b)) ++ progW all hs ns bs)) := e
    obtain ⟨f0, e1⟩ := atw_drop e0
    have e2 := (atw_drop e1).2
    have lt := (List.getElem?_eq_some_iff.mp f0).1
    have lenp : (n.2.take h.1.toNat).length = h.1.toNat := by rw [List.length_take]; omega
    rw [List.append_assoc] at e2
    have e2' : ws.drop (P.2.2.2 + 1 + 1) = n.2.take h.1.toNat ++ ("with" : Str) :: (n.2.drop h.1.toNat ++ ("is" : Str) :: (wordsN all n.2 b ++ progW all hs ns bs)) := by rw [e2]; simp
    have l2 := congrArg List.length e2'
    simp only [List.length_drop, List.length_append, List.length_cons] at l2
    have dn : n.1 ∉ P.1.map (·.1) := fun z => (List.nodup_append.mp hdup).2.2 n.1 z n.1 List.mem_cons_self rfl
    have hm : ((if P.1 = [] then 0 else 4 : Int)) = (if P.1.length + 0 = 0 then 0 else 4) := by
      by_cases c : P.1 = []
      · rw [c]; rfl
      · rw [if_neg c, if_neg]; exact fun z => c (List.eq_nil_of_length_eq_zero (by omega))
    have r3 := boxes_run with_no.1 (m := (if P.1 = [] then 0 else 4 : Int)) (bx := []) (f := ws.length + 1) e2' (fun x hx => n2 x (List.mem_of_mem_take hx)) (by rw [List.nil_append]; exact n3.sublist (List.take_sublist _ _)) (by rw [List.nil_append, lenp, hm]; omega) (by omega)
    rw [List.nil_append] at r3
    have e3 := dropw_app e2'
    have e3' := (atw_drop e3).2
    have r4 := boxes_run with_no.2 (m := 12) (bx := n.2.take h.1.toNat) (f := ws.length + 1) (k := P.2.2.2 + 1 + 1 + (n.2.take h.1.toNat).length + 1) e3' (fun x hx => n2 x (List.mem_of_mem_drop hx)) (by rw [List.take_append_drop]; exact n3) (by rw [List.take_append_drop]; omega) (by rw [List.length_drop]; omega)
    rw [List.take_append_drop] at r4
    have e4 := (atw_drop (dropw_app e3')).2
    have r5 := node_words N D n2 n3 (by rw [b1]; exact b4) b5 e4
    have once : onceW ws hd P = .ok (P.1 ++ [(n.1, n.2)], P.2.1 ++ [h.1, h.2], P.2.2.1 ++ enc b, P.2.2.2 + 1 + 1 + (n.2.take h.1.toNat).length + 1 + (n.2.drop h.1.toNat).length + 1 + (wordsN all n.2 b).length) := by
      unfold onceW
      rw [if_neg (by rw [List.length_cons] at h16; omega), bindT_of (dueW_of e0 (by simp)), bindT_of (dueW_of e1 (by rw [n1, decide_eq_false dn]; rfl)), bindT_of r3, bindT_of r4, bindT_of r5]
      dsimp only
      rw [lenp, b1, Int.toNat_of_nonneg b2]
    show (if P.1 = [] ∨ P.2.2.2 < ws.length then bindT (onceW ws hd P) (loopW ws hd g) else Except.ok P) = _
    rw [if_pos (.inr lt), bindT_of once]
    have l4 := congrArg List.length e4
    rw [List.length_drop, List.length_append] at l4
    have ww := (words_ne N n2 (by rw [b1]; exact b4) b5).1
    have wl : 0 < (wordsN all n.2 b).length := Nat.pos_of_ne_zero fun z => ww (List.eq_nil_of_length_eq_zero z)
    have ih := loop_prog N D A (fun m hm => hn m (List.mem_cons_of_mem _ hm)) (P.1 ++ [(n.1, n.2)], P.2.1 ++ [h.1, h.2], P.2.2.1 ++ enc b, P.2.2.2 + 1 + 1 + (n.2.take h.1.toNat).length + 1 + (n.2.drop h.1.toNat).length + 1 + (wordsN all n.2 b).length)
      (fun z => by simp at z) (by rw [List.length_append]; rw [List.length_cons] at h16; show P.1.length + 1 + hs.length ≤ 16; omega) (by rw [List.map_append, List.append_assoc]; exact hdup)
      (fun i h n b x y z => by
        obtain ⟨a1, a2, a3, a4, a5⟩ := hb (i + 1) h n b (by simpa using x) (by simpa using y) (by simpa using z)
        refine ⟨a1, a2, a3, ?_, a5⟩
        rw [if_neg (by omega)] at a4
        show h.1 ≤ if (P.1 ++ [_]).length + i = 0 then 0 else 4
        rw [List.length_append, List.length_singleton, if_neg (by omega)]
        exact a4) (dropw_app e4) g (by rw [List.length_cons] at hf; omega) (by show _ + (wordsN all n.2 b).length ≤ ws.length; omega)
    rw [ih]
    simp [flat, encs]
/-- WHAT IS WRITTEN IS READ BACK -/
theorem read_prog {nm : Nms} {hs : List (Int × Int)} {bs : List Nd} (P : PrgOK nm hs bs) : readW (progW nm hs nm bs) = .ok (nm, (hs.length : Int) :: (flat hs ++ encs bs)) := by
  have hne : hs ≠ [] := fun z => by have := P.h.1; rw [z] at this; exact absurd this (by decide)
  have e := loop_prog P.n (hd_prog P) P.al P.n.n ([], [], [], 0) (fun _ => hne) (by show 0 + hs.length ≤ 16; have := P.h.2.1; omega) P.n.d (fun i h n b x y z => by
    obtain ⟨a1, a2, a3, a4, a5⟩ := P.all i h n b x y z
    obtain ⟨c0, c1, c2, c3⟩ := P.h.2.2 i h x
    refine ⟨a1, a2, a3, ?_, c3, a4, a5⟩
    show h.1 ≤ if 0 + i = 0 then 0 else 4
    by_cases q : i = 0
    · subst q; exact c1
    · rw [if_neg (by omega)]; rw [if_pos (by omega)] at c1; exact c1) rfl 18 (by have := P.h.2.1; omega) (Nat.zero_le _)
  unfold readW
  rw [bindT_of e]
  simp [P.n.l]
theorem encs_memw : ∀ {l : List Nd} {n : Nd}, n ∈ l → (enc n).length ≤ (encs l).length
  | a :: l, n, h => by
    show (enc n).length ≤ (enc a ++ encs l).length
    rw [List.length_append]
    rcases List.mem_cons.mp h with e | h
    · rw [e]; omega
    · have := encs_memw h; omega

/-! ### what holds of all words of a program; the words of what is shown -/
theorem words_all {P : Str → Prop} (p1 : ∀ w, isName w = true → P w) (p2 : ∀ v : Int, v.natAbs < 10 ^ 60 → P (strI v)) (p3 : ∀ k : Int, 2 ≤ k → k ≤ 19 → P (wordK k)) {nm : Nms} {hs : List (Int × Int)} {bx : List Str} (N : NmOK nm hs) (hb : ∀ w ∈ bx, isName w = true) :
    ∀ {f : Nat} {t : Nd}, OkN hs (bx.length : Int) f t → (∀ x ∈ enc t, x.natAbs < 10 ^ 60) → ∀ w ∈ wordsN nm bx t, P w
  | 0, .mk _ _ _ _, h, _ => h.elim
  | f + 1, .mk kind pl ns ps, h, hx => by
    obtain ⟨h0, h1, ho, hp⟩ := h
    have hx0 : ∀ x ∈ ns, x.natAbs < 10 ^ 60 := fun x hxx => hx x (by show x ∈ kind :: (ns ++ encs ps); simp [hxx])
    have bxn : ∀ v : Int, 0 ≤ v → v < bx.length → P (bx.getD v.toNat "") := fun v v0 v1 => by
      have hv : v.toNat < bx.length := by omega
      rw [getD_of (List.getElem?_eq_getElem hv)]
      exact p1 _ (hb _ (List.getElem_mem hv))
    intro w hw
    rcases List.mem_append.mp (show w ∈ headW nm bx kind (ns.headD 0) ++ wordsNs nm bx ps from hw) with z | z
    · unfold headW at z
      by_cases k0 : kind = 0
      · rw [if_pos k0] at z
        rcases ho with ⟨_, pm, v, rfl⟩ | ⟨⟨h, _⟩ | ⟨h, _⟩, _⟩ | ⟨h, _⟩ | ⟨h, _⟩ | ⟨h, _⟩ | ⟨h, _⟩ | ⟨h, _⟩ <;> first | (exfalso; omega) | skip
        rw [List.mem_singleton.mp z]
        exact p2 _ (hx0 v (List.mem_singleton.mpr rfl))
      rw [if_neg k0] at z
      by_cases k1 : kind = 1
      · rw [if_pos k1] at z
        rcases ho with ⟨h, _⟩ | ⟨_, v, rfl, v0, v1⟩ | ⟨h, _⟩ | ⟨h, _⟩ | ⟨h, _⟩ | ⟨h, _⟩ | ⟨h, _⟩ <;> first | (exfalso; omega) | skip
        rw [List.mem_singleton.mp z]
        exact bxn v v0 v1
      rw [if_neg k1] at z
      rcases List.mem_cons.mp z with z | z
      · rw [z]; exact p3 _ (by omega) h1
      by_cases k2 : kind = 2
      · rw [if_pos k2] at z
        rcases ho with ⟨h, _⟩ | ⟨_, v, rfl, v0, v1⟩ | ⟨h, _⟩ | ⟨h, _⟩ | ⟨h, _⟩ | ⟨h, _⟩ | ⟨h, _⟩ <;> first | (exfalso; omega) | skip
        rw [List.mem_singleton.mp z]
        exact bxn v v0 v1
      rw [if_neg k2] at z
      by_cases k3 : kind = 3 ∨ kind = 4
      · rw [if_pos k3] at z
        have : ∃ v : Int, ns = [v] := by
          rcases ho with ⟨h, _⟩ | ⟨h, _⟩ | ⟨_, _, _, h⟩ | ⟨_, v, h, _⟩ | ⟨h, _⟩ | ⟨h, _⟩ | ⟨h, _⟩ <;> first | exact ⟨_, h⟩ | (exfalso; omega)
        obtain ⟨v, rfl⟩ := this
        rw [List.mem_singleton.mp z]
        exact p2 _ (hx0 v (List.mem_singleton.mpr rfl))
      rw [if_neg k3] at z
      by_cases k6 : kind = 6
      · rw [if_pos k6] at z
        rcases ho with ⟨h, _⟩ | ⟨h, _⟩ | ⟨h, _⟩ | ⟨h, _⟩ | ⟨_, v, h, rfl, ehs, _⟩ | ⟨h, _⟩ | ⟨h, _⟩ <;> first | (exfalso; omega) | skip
        have hv : v < nm.length := by rw [N.l]; exact (List.getElem?_eq_some_iff.mp ehs).1
        have ed : nm.getD ((v : Int)).toNat ("", []) = nm[v] := by rw [Int.toNat_natCast]; exact getD_of (List.getElem?_eq_getElem hv)
        have z := List.mem_singleton.mp z
        rw [show ([(v : Int)] : List Int).headD 0 = (v : Int) from rfl, ed] at z
        rw [z]
        exact p1 _ (N.n _ (List.getElem_mem hv)).1
      · rw [if_neg k6] at z; cases z
    · exact words_ne.mem_words (P := P) (fun p hm w hw => words_all p1 p2 p3 N hb (hp p hm) (fun x hxx => hx x (by
        show x ∈ kind :: (ns ++ encs ps)
        exact List.mem_cons_of_mem _ (List.mem_append_right _ (node_words.encs_in hm hxx)))) w hw) z
theorem prog_all {P : Str → Prop} (p1 : ∀ w, isName w = true → P w) (p2 : ∀ v : Int, v.natAbs < 10 ^ 60 → P (strI v)) (p3 : ∀ k : Int, 2 ≤ k → k ≤ 19 → P (wordK k)) (p4 : P "fun" ∧ P "with" ∧ P "is") {nm : Nms} {hs : List (Int × Int)} {bs : List Nd} (O : PrgOK nm hs bs) (i : Nat) (h : Int × Int) (n : Str × List Str) (b : Nd) (e1 : hs[i]? = some h) (e2 : nm[i]? = some n) (e3 : bs[i]? = some b) :
    ∀ w ∈ funW nm h n b, P w := by
  obtain ⟨a1, a2, a3, a4, a5⟩ := O.all i h n b e1 e2 e3
  obtain ⟨n1, n2, n3⟩ := O.n.n _ (List.mem_of_getElem? e2)
  rw [← a1] at a4
  intro w hw
  rcases List.mem_cons.mp (show w ∈ ("fun" : Str) :: n.1 :: (n.2.take h.1.toNat ++ ("with" : Str) :: (n.2.drop h.1.toNat ++ ("is" : Str) :: wordsN nm n.2 b)) from hw) with z | z
  · rw [z]; exact p4.1
  rcases List.mem_cons.mp z with z | z
  · rw [z]; exact p1 _ n1
  rcases List.mem_append.mp z with z | z
  · exact p1 _ (n2 w (List.mem_of_mem_take z))
  rcases List.mem_cons.mp z with z | z
  · rw [z]; exact p4.2.1
  rcases List.mem_append.mp z with z | z
  · exact p1 _ (n2 w (List.mem_of_mem_drop z))
  rcases List.mem_cons.mp z with z | z
  · rw [z]; exact p4.2.2
  · exact words_all p1 p2 p3 O.n n2 a4 a5 w z
def Clean (w : Str) : Prop := w.cps.toList ≠ [] ∧ ∀ x ∈ w.cps.toList, 33 ≤ x ∧ x < 128
theorem Clean.b {w : Str} (h : Clean w) : ∀ x ∈ w.cps.toList, ¬ isB x := fun x hx z => by
  have := (h.2 x hx).1
  rcases z with z | z <;> omega
theorem Clean.ok {w : Str} (h : Clean w) : PyData.strOk w = true := by
  unfold PyData.strOk
  rw [Array.all_eq_true_iff_forall_mem]
  intro x hx
  have := (h.2 x (Array.mem_toList_iff.mpr hx)).2
  simp
  omega
theorem clean_name {w : Str} (h : isName w = true) : Clean w := by
  obtain ⟨_, _, a, _, c⟩ := isName_parts h
  exact ⟨a, fun x hx => by have := c x hx; omega⟩
theorem clean_num (v : Int) : Clean (strI v) := by
  unfold Clean
  rw [strI_ls]
  unfold sgI
  have d := TL.numL_digits v.natAbs
  split
  · exact ⟨by simp, fun x hx => by
      rcases List.mem_cons.mp hx with z | z
      · omega
      · have := d x z; omega⟩
  · exact ⟨TL.numL_ne _, fun x hx => by have := d x hx; omega⟩
theorem clean_all : ∀ i : _root_.Fin 18, (WD.getD i.val "").cps.toList ≠ [] ∧ ∀ x ∈ (WD.getD i.val "").cps.toList, 33 ≤ x ∧ x < 128 := by decide +kernel
theorem clean_K (k : Int) (h2 : 2 ≤ k) (h19 : k ≤ 19) : Clean (wordK k) := clean_all ⟨(k - 2).toNat, by omega⟩
theorem clean_kw : Clean "fun" ∧ Clean "with" ∧ Clean "is" := by unfold Clean; decide +kernel
theorem ws0_join {b : Nat} (hb : isB b) : ∀ ps : List Str, ws0 (Str.join ⟨#[b]⟩ ps).cps.toList = (ps.map fun p => ws0 p.cps.toList).flatten
  | [] => rfl
  | [p] => by show ws0 p.cps.toList = ws0 p.cps.toList ++ []; rw [List.append_nil]
  | p :: q :: r => by
    rw [List.map_cons, List.flatten_cons, ← ws0_join hb (q :: r), ← ws0_app hb, join_cons2, Str.cps_append, Str.cps_append, Array.toList_append, Array.toList_append, List.append_assoc]
    rfl
theorem ws0_clean : ∀ {ws : List Str}, (∀ w ∈ ws, Clean w) → (ws.map fun p => ws0 p.cps.toList).flatten = ws.map fun w => w.cps.toList
  | [], _ => rfl
  | w :: ws, h => by
    have a := h w List.mem_cons_self
    rw [List.map_cons, List.flatten_cons, ws0_one a.1 a.b, ws0_clean fun x hx => h x (List.mem_cons_of_mem _ hx)]
    rfl
theorem txt_join (sep : Str) (l : List Str) : Txt.join sep l = Str.join sep l := PySem.StrLaws.glued_eq_join sep l
theorem ws0_line {ws : List Str} (h : ∀ w ∈ ws, Clean w) : ws0 (Txt.join " " ws).cps.toList = ws.map fun w => w.cps.toList := by
  rw [txt_join, bl_is, ws0_join (.inl rfl), ws0_clean h]
theorem map_ofL (ws : List Str) : (ws.map fun w => w.cps.toList).map ofL = ws := by rw [List.map_map]; exact List.map_id ws
theorem words_line {ws : List Str} (h : ∀ w ∈ ws, Clean w) : wordsT (Txt.join " " ws) = ws := by rw [wordsT_eq, ws0_line h, map_ofL]
/-- the words of what is shown -/
theorem strOk_join {sep : Str} (hs : PyData.strOk sep = true) : ∀ {l : List Str}, (∀ w ∈ l, PyData.strOk w = true) → PyData.strOk (Str.join sep l) = true
  | [], _ => by show PyData.strOk Str.empty = true; decide +kernel
  | [p], h => h p (List.mem_singleton.mpr rfl)
  | p :: q :: r, h => by
    have ih := strOk_join hs (l := q :: r) fun w hw => h w (List.mem_cons_of_mem _ hw)
    have hp := h p List.mem_cons_self
    rw [join_cons2]
    unfold PyData.strOk at *
    rw [Array.all_eq_true_iff_forall_mem] at *
    intro x hx
    rw [Str.cps_append, Str.cps_append] at hx
    rcases Array.mem_append.mp hx with z | z
    · rcases Array.mem_append.mp z with z | z
      · exact hp x z
      · exact hs x z
    · exact ih x z
/-- names as data -/
def namesD (nm : Nms) : List PyData := nm.map fun n => .tuple [.str n.1, .tuple (n.2.map PyData.str)]
theorem dp_strs {K : PySem.W.Frag} {H : Hp} : ∀ ws : List Str, DpAll K H (ws.map V.str) (ws.map PyData.str)
  | [] => .nil
  | w :: ws => .cons (.str w) (dp_strs ws)
theorem names_dp {K : PySem.W.Frag} {H : Hp} : ∀ {nm : Nms} {vs : List V}, NamesAt H nm vs → DpAll K H vs (namesD nm)
  | [], vs, h => by rw [show vs = [] from h]; exact .nil
  | (w, bx) :: r, vs, ⟨t, tb, us, e, h1, h2, h3⟩ => by
    rw [e]
    exact .cons (.tup (SqT.of h1) (.cons (.str w) (.cons (.tup (SqT.of h2) (dp_strs bx)) .nil))) (names_dp h3)
theorem names_sh {nm : Nms} (h : ∀ x ∈ nm, isName x.1 = true ∧ (∀ w ∈ x.2, isName w = true) ∧ x.2.Nodup) : ∀ d ∈ namesD nm, Sh 2 d := fun d hd => by
  obtain ⟨x, hx, rfl⟩ := List.mem_map.mp hd
  obtain ⟨a, b, _⟩ := h x hx
  refine Sh.tup fun d hd => ?_
  simp only [List.mem_cons, List.not_mem_nil, or_false] at hd
  rcases hd with e | e <;> subst e
  · exact Sh.str (clean_name a).ok
  · refine Sh.tup fun d hd => ?_
    obtain ⟨w, hw, rfl⟩ := List.mem_map.mp hd
    exact Sh.str (clean_name (b w hw)).ok

/-! ### codes -/
def HeadOK (h : List Int) (i m : Nat) : Prop := ∃ s p b : Int, h = [s, p, b] ∧ 0 ≤ s ∧ s < m ∧ 0 ≤ p ∧ p ≤ (if 0 < i then 4 else 0) ∧ p ≤ b ∧ b ≤ 12
def OpOK (op n : Int) (fs rs : Nat) : Prop := op = 0 ∨ ((op = 1 ∨ op = 2) ∧ 0 ≤ n ∧ n < 12) ∨ ((op = 4 ∨ op = 5) ∧ 0 ≤ n ∧ n < rs) ∨ (op = 6 ∧ 0 ≤ n ∧ n < fs) ∨ ((op = 3 ∨ op = 7 ∨ op = 8 ∨ op = 9) ∧ n = 0) ∨ (op = 10 ∧ 8 ≤ n ∧ n ≤ 19) ∨ (op = 11 ∧ 2 ≤ n ∧ n ≤ 12)
def RowOK (r : List Int) (fs rs : Nat) : Prop := ∃ op n : Int, r = [op, n] ∧ OpOK op n fs rs
structure CodeOK (hs rs : List (List Int)) : Prop where
  h1 : 1 ≤ hs.length
  h16 : hs.length ≤ 16
  r1 : 1 ≤ rs.length
  hd : ∀ (i : Nat) (h : List Int), hs[i]? = some h → HeadOK h i rs.length
  rw : ∀ r ∈ rs, RowOK r hs.length rs.length
/-- cut up in lists of so many -/
def cutUp (n : Nat) (xs : List Int) : List (List Int) := (List.range (xs.length / n)).map fun k => (xs.drop (k * n)).take n
theorem cutUp_len (n : Nat) (xs : List Int) : (cutUp n xs).length = xs.length / n := by unfold cutUp; rw [List.length_map, List.length_range]
theorem cutUp_get {n : Nat} {xs : List Int} {i : Nat} {x : List Int} (h : (cutUp n xs)[i]? = some x) : i < xs.length / n ∧ x = (xs.drop (i * n)).take n := by
  unfold cutUp at h
  rw [List.getElem?_map] at h
  obtain ⟨k, h1, h2⟩ := Option.map_eq_some_iff.mp h
  have hi := (List.getElem?_eq_some_iff.mp h1)
  have := hi.2
  rw [List.getElem_range] at this
  subst this
  have := hi.1
  rw [List.length_range] at this
  exact ⟨this, h2.symm⟩
theorem cutUp_all {n : Nat} {xs : List Int} {x : List Int} (h : x ∈ cutUp n xs) : x.length = n := by
  obtain ⟨i, hi⟩ := List.mem_iff_getElem?.mp h
  obtain ⟨h1, rfl⟩ := cutUp_get hi
  rw [List.length_take, List.length_drop]
  have h2 := Nat.div_mul_le_self xs.length n
  have h3 : (i + 1) * n ≤ xs.length / n * n := Nat.mul_le_mul_right n (by omega)
  rw [Nat.add_mul] at h3
  omega
theorem cutUp_cons {n : Nat} (hn : 0 < n) {x xs : List Int} (hx : x.length = n) : cutUp n (x ++ xs) = x :: cutUp n xs := by
  unfold cutUp
  have e : (x ++ xs).length / n = xs.length / n + 1 := by rw [List.length_append, hx, Nat.add_comm, Nat.add_div_right _ hn]
  rw [e, List.range_succ_eq_map, List.map_cons, List.map_map]
  congr 1
  · rw [Nat.zero_mul, List.drop_zero, List.take_append_of_le_length (by omega), List.take_of_length_le (by omega)]
  · apply List.map_congr_left
    intro k _
    show ((x ++ xs).drop ((k + 1) * n)).take n = _
    rw [Nat.add_mul, Nat.one_mul, Nat.add_comm, ← List.drop_drop, ← hx, List.drop_left]
theorem cutUp_flatten {n : Nat} (hn : 0 < n) : ∀ {xss : List (List Int)}, (∀ x ∈ xss, x.length = n) → cutUp n xss.flatten = xss
  | [], _ => by unfold cutUp; simp
  | x :: xss, h => by
    rw [List.flatten_cons, cutUp_cons hn (h x List.mem_cons_self), cutUp_flatten hn fun y hy => h y (List.mem_cons_of_mem _ hy)]
theorem flat_sum {n : Nat} : ∀ {xss : List (List Int)}, (∀ x ∈ xss, x.length = n) → xss.flatten.length = n * xss.length
  | [], _ => rfl
  | x :: xss, h => by
    rw [List.flatten_cons, List.length_append, h x List.mem_cons_self, flat_sum fun y hy => h y (List.mem_cons_of_mem _ hy), List.length_cons, Nat.mul_add]
    omega
/-- the list of a code -/
def codeL (hs rs : List (List Int)) : List Int := (hs.length : Int) :: (hs.flatten ++ rs.flatten)
theorem HeadOK.len {h : List Int} {i m : Nat} (H : HeadOK h i m) : h.length = 3 := by obtain ⟨_, _, _, rfl, _⟩ := H; rfl
theorem RowOK.len {h : List Int} {i m : Nat} (H : RowOK h i m) : h.length = 2 := by obtain ⟨_, _, rfl, _⟩ := H; rfl
theorem CodeOK.h3 {hs rs : List (List Int)} (C : CodeOK hs rs) : ∀ x ∈ hs, x.length = 3 := fun x hx => by
  obtain ⟨i, hi⟩ := List.mem_iff_getElem?.mp hx
  exact (C.hd i x hi).len
theorem CodeOK.r2 {hs rs : List (List Int)} (C : CodeOK hs rs) : ∀ x ∈ rs, x.length = 2 := fun x hx => (C.rw x hx).len
theorem codeL_len {hs rs : List (List Int)} (C : CodeOK hs rs) : (codeL hs rs).length = 1 + 3 * hs.length + 2 * rs.length := by
  unfold codeL
  rw [List.length_cons, List.length_append, flat_sum C.h3, flat_sum C.r2]
  omega
/-- whether a list of numbers can be parted, and how -/
def cutH (xs : List Int) (m : Nat) : List (List Int) := cutUp 3 ((xs.drop 1).take (3 * m))
def cutR (xs : List Int) (m : Nat) : List (List Int) := cutUp 2 (xs.drop (3 * m + 1))
def PartOK (xs : List Int) (m : Nat) : Prop := xs[0]? = some (m : Int) ∧ 1 ≤ m ∧ m ≤ 16 ∧ 3 * m + 1 ≤ xs.length ∧ (xs.length - 3 * m) % 2 ≠ 0
def IsCode (xs : List Int) (hs rs : List (List Int)) : Prop := CodeOK hs rs ∧ xs = codeL hs rs
theorem IsCode.part {xs : List Int} {hs rs : List (List Int)} (C : IsCode xs hs rs) : PartOK xs hs.length ∧ cutH xs hs.length = hs ∧ cutR xs hs.length = rs := by
  obtain ⟨C, rfl⟩ := C
  have l := codeL_len C
  refine ⟨⟨rfl, C.h1, C.h16, by omega, by omega⟩, ?_, ?_⟩
  · unfold cutH codeL
    rw [List.drop_succ_cons, List.drop_zero, ← flat_sum C.h3, List.take_left]
    exact cutUp_flatten (by omega) C.h3
  · unfold cutR codeL
    rw [List.drop_succ_cons, ← flat_sum C.h3, List.drop_left]
    exact cutUp_flatten (by omega) C.r2
theorem cut_join {n : Nat} (hn : 0 < n) : ∀ (m : Nat) {xs : List Int}, xs.length = n * m → (cutUp n xs).flatten = xs
  | 0, xs, h => by
    have : xs = [] := List.eq_nil_of_length_eq_zero (by simpa using h)
    subst this
    unfold cutUp
    simp
  | m + 1, xs, h => by
    have hl : (xs.take n).length = n := by rw [List.length_take, h, Nat.mul_add]; omega
    have e : xs = xs.take n ++ xs.drop n := (List.take_append_drop n xs).symm
    rw [e, cutUp_cons hn hl, List.flatten_cons, cut_join hn m (by rw [List.length_drop, h, Nat.mul_add]; omega)]
theorem part_code {xs : List Int} {m : Nat} (P : PartOK xs m) (C : CodeOK (cutH xs m) (cutR xs m)) : IsCode xs (cutH xs m) (cutR xs m) := by
  obtain ⟨e0, m1, m2, l1, l2⟩ := P
  refine ⟨C, ?_⟩
  have lH : ((xs.drop 1).take (3 * m)).length = 3 * m := by rw [List.length_take, List.length_drop]; omega
  have lh : (cutH xs m).length = m := by unfold cutH; rw [cutUp_len, lH]; omega
  unfold codeL
  rw [lh]
  unfold cutH cutR
  rw [cut_join (by omega) m lH, cut_join (by omega) ((xs.length - 3 * m - 1) / 2) (by rw [List.length_drop]; omega)]
  obtain ⟨x, r, rfl⟩ : ∃ x r, xs = x :: r := by
    cases xs with
    | nil => simp at l1
    | cons x r => exact ⟨x, r, rfl⟩
  have ex : x = (m : Int) := by simpa using e0
  subst ex
  rw [List.drop_succ_cons, List.drop_zero, List.drop_succ_cons, List.take_append_drop]
theorem part_uniq {xs : List Int} {m m' : Nat} (P : PartOK xs m) (P' : PartOK xs m') : m = m' := by
  have := P.1.symm.trans P'.1
  injection this with this
  omega
theorem code_no {xs : List Int} {m : Nat} (P : PartOK xs m) (C : ¬ CodeOK (cutH xs m) (cutR xs m)) : ∀ hs rs, ¬ IsCode xs hs rs := fun hs rs I => by
  obtain ⟨P', e1, e2⟩ := I.part
  cases part_uniq P P'
  rw [e1, e2] at C
  exact C I.1

def q_is_whole (Z : Adr) (a : V) (H : Hp) (Q : VK) (E : XK) : Prop := ∃ i : Int, a = .int i ∧ Q (.bl true) H
def q_are_wholes (Z : Adr) (a b : V) (H : Hp) (Q : VK) (E : XK) : Prop := ∃ (xs : List Int) (m : Int), SeqI Z.K H xs a ∧ b = .int m ∧ xs.length ≤ 100000 ∧ ∀ H', Same H H' → Q (.bl (decide ((xs.length : Int) = m))) H'
def q_fits_op (Z : Adr) (a b c d : V) (H : Hp) (Q : VK) (E : XK) : Prop := ∃ (op n : Int) (fs rs : Nat), a = .int op ∧ b = .int n ∧ c = .int fs ∧ d = .int rs ∧ (OpOK op n fs rs → ∀ H', Same H H' → Q (.bl true) H') ∧ (¬ OpOK op n fs rs → ∀ H', Same H H' → Q (.bl false) H')
def q_fits_head (Z : Adr) (a b c : V) (H : Hp) (Q : VK) (E : XK) : Prop := ∃ (h : List Int) (i m : Nat), SeqI Z.K H h a ∧ h.length = 3 ∧ b = .int i ∧ c = .int m ∧ (HeadOK h i m → Q (.bl true) H) ∧ (¬ HeadOK h i m → Q (.bl false) H)
def ListI (K : PySem.W.Frag) (H : Hp) (xss : List (List Int)) (v : V) : Prop := ∃ l vs, v = .ref l ∧ (SqL K H l vs ∨ SqT K H l vs) ∧ Row (SeqI K H) xss vs
theorem ListI.same {K : PySem.W.Frag} {H H' : Hp} {x : List (List Int)} {v : V} (S : Same H H') (h : ListI K H x v) : ListI K H' x v := by
  obtain ⟨t, vs, rfl, e | e, r⟩ := h
  · exact ⟨t, vs, rfl, .inl (S.seq e), r.imp fun _ _ _ z => z.same S⟩
  · exact ⟨t, vs, rfl, .inr (same_sqT S e), r.imp fun _ _ _ z => z.same S⟩
def q_make_code (Z : Adr) (a b : V) (H : Hp) (Q : VK) (E : XK) : Prop := ∃ (hs rs : List (List Int)), ListI Z.K H hs a ∧ ListI Z.K H rs b ∧ (∀ h ∈ hs, h.length = 3) ∧ (∀ r ∈ rs, r.length = 2) ∧ hs.length ≤ 100000 ∧ rs.length ≤ 100000 ∧
  (CodeOK hs rs → ∀ H', Same H H' → Q (.bl true) H') ∧ (¬ CodeOK hs rs → ∀ H', Same H H' → Q (.bl false) H')
def q_cut_up (Z : Adr) (a b : V) (H : Hp) (Q : VK) (E : XK) : Prop := ∃ (l : Addr) (xs : List Int) (n : Nat), a = .ref l ∧ b = .int n ∧ 0 < n ∧ n ≤ 1000 ∧ xs.length ≤ 100000 ∧ SqL Z.K H l (xs.map V.int) ∧ ∀ l' vs H', Same H H' → H l' = none → H' l' = some (.lst vs) → TupsAt H' (cutUp n xs) vs → Q (.ref l') H'
/-- heads and rows of a code as they are told -/
def Told (H0 H : Hp) (xss : List (List Int)) (l : Addr) : Prop := H0 l = none ∧ ∃ vs, H l = some (.lst vs) ∧ TupsAt H xss vs
def q_parted_code (Z : Adr) (a : V) (H : Hp) (Q : VK) (E : XK) : Prop := ∃ (l : Addr) (xs : List Int), a = .ref l ∧ SqL Z.K H l (xs.map V.int) ∧ xs.length ≤ 100000 ∧
  (∀ hs rs, IsCode xs hs rs → ∀ t lh lr H', Same H H' → H' t = some (.tup [.ref lh, .ref lr]) → lh ≠ lr → Told H H' hs lh → Told H H' rs lr → Q (.ref t) H') ∧
  ((∀ hs rs, ¬ IsCode xs hs rs) → ∀ H', Same H H' → E (.ref Z.c_NoCode) none H')
def q_is_code (Z : Adr) (a : V) (H : Hp) (Q : VK) (E : XK) : Prop := ∃ (l : Addr) (xs : List Int), a = .ref l ∧ SqL Z.K H l (xs.map V.int) ∧ xs.length ≤ 100000 ∧ (∀ hs rs, IsCode xs hs rs → ∀ H', Same H H' → Q (.bl true) H') ∧ ((∀ hs rs, ¬ IsCode xs hs rs) → ∀ H', Same H H' → Q (.bl false) H')
def q_heads_of (Z : Adr) (a : V) (H : Hp) (Q : VK) (E : XK) : Prop := ∃ (l : Addr) (xs : List Int) (hs rs : List (List Int)), a = .ref l ∧ SqL Z.K H l (xs.map V.int) ∧ xs.length ≤ 100000 ∧ IsCode xs hs rs ∧ ∀ l H', Same H H' → Told H H' hs l → Q (.ref l) H'
def q_rows_of (Z : Adr) (a : V) (H : Hp) (Q : VK) (E : XK) : Prop := ∃ (l : Addr) (xs : List Int) (hs rs : List (List Int)), a = .ref l ∧ SqL Z.K H l (xs.map V.int) ∧ xs.length ≤ 100000 ∧ IsCode xs hs rs ∧ ∀ l H', Same H H' → Told H H' rs l → Q (.ref l) H'
def q_code_of (Z : Adr) (a b : V) (H : Hp) (Q : VK) (E : XK) : Prop := ∃ (hs rs : List (List Int)), ListI Z.K H hs a ∧ ListI Z.K H rs b ∧ (∀ h ∈ hs, h.length = 3) ∧ (∀ r ∈ rs, r.length = 2) ∧ hs.length ≤ 30000 ∧ rs.length ≤ 30000 ∧ (CodeOK hs rs → ∀ l H', Same H H' → H l = none → H' l = some (.lst ((codeL hs rs).map V.int)) → Q (.ref l) H') ∧ (¬ CodeOK hs rs → ∀ H', Same H H' → E (.ref Z.c_NoCode) none H')

/-! ### pens of three numbers: at most n numbers were drawn -/
def Pl (n : Int) (H : Hp) (p : Addr) : Prop := ∃ a b c : Int, 0 ≤ a ∧ 0 ≤ b ∧ (0 ≤ c ∧ c ≤ n) ∧ H p = some (.lst [.int a, .int b, .int c])
theorem Pl.le {n m : Int} {H : Hp} {p : Addr} (h : Pl n H p) (hm : n ≤ m) : Pl m H p := by
  obtain ⟨a, b, c, h1, h2, ⟨h3, h4⟩, hp⟩ := h
  exact ⟨a, b, c, h1, h2, ⟨h3, by omega⟩, hp⟩
theorem Pl.ne {n : Int} {H : Hp} {p q : Addr} (h : Pl n H p) (hq : H q = none) : q ≠ p := by
  obtain ⟨a, b, c, _, _, _, hp⟩ := h
  exact (ne_of_none hp hq).symm
theorem Pl.but {n : Int} {H H' : Hp} {p q : Addr} (h : Pl n H p) (B : But q H H') (m : p ≠ q) : Pl n H' p := by
  obtain ⟨a, b, c, h1, h2, h3, hp⟩ := h
  exact ⟨a, b, c, h1, h2, h3, B.rd m hp⟩
theorem Pl.but2 {n : Int} {H H' : Hp} {p q r : Addr} (h : Pl n H p) (B : But2 q r H H') (m : p ≠ q) (m2 : p ≠ r) : Pl n H' p := by
  obtain ⟨a, b, c, h1, h2, h3, hp⟩ := h
  exact ⟨a, b, c, h1, h2, h3, B.rd m m2 hp⟩
theorem Pl.same {n : Int} {H H' : Hp} {p : Addr} (h : Pl n H p) (S : Same H H') : Pl n H' p := by
  obtain ⟨a, b, c, h1, h2, h3, hp⟩ := h
  exact ⟨a, b, c, h1, h2, h3, S _ _ hp⟩
theorem Pl.new {n : Int} {H : Hp} {p q : Addr} {o : HO} (h : Pl n H p) (hq : H q = none) : Pl n (upd H q o) p := h.same (same_new hq)
theorem Pl.tups {n : Int} {H H' : Hp} {p : Addr} (h : Pl n H p) (B : But p H H') : TupS H H' := by
  obtain ⟨a, b, c, h1, h2, h3, hp⟩ := h
  exact TupS.but B hp fun ys e => by cases e
theorem Pl.nt {n : Int} {H : Hp} {p q : Addr} {xs : List V} (h : Pl n H p) (hq : H q = some (.tup xs)) : q ≠ p := by
  obtain ⟨a, b, c, _, _, _, hp⟩ := h
  exact ne_of hq hp (by simp)
def q_Lpen (Z : Adr) (a b : V) (H : Hp) (Q : VK) (E : XK) : Prop := ∃ (sa : Addr) (ns : List Int) (k : Int), a = .ref sa ∧ b = .int k ∧ 0 ≤ k ∧ Scr Z.K H sa ns ∧ ∀ p H', Same H H' → H p = none → Pl 0 H' p → Q (.ref p) H'
def q_Ldraw (Z : Adr) (a b : V) (H : Hp) (Q : VK) (E : XK) : Prop := ∃ (p : Addr) (m n : Int), a = .ref p ∧ b = .int m ∧ 0 < m ∧ m < 10 ^ 70 ∧ n ≤ 1000000000000 ∧ Pl n H p ∧ ∀ v H', 0 ≤ v → v < m → Pl (n + 1) H' p → But p H H' → Q (.int v) H'

/-! ### codes as texts -/
def NUMB : List (Str × Int) := [("push", 0), ("get", 1), ("set", 2), ("jump", 4), ("unless", 5), ("call", 6), ("pick", 11)]
def ALON : List (Str × Int) := [("drop", 3), ("back", 7), ("fail", 8), ("breath", 9)]
def lkS (l : List (Str × Int)) (w : Str) : Option Int := (l.find? fun q => decide (q.1 = w)).map (·.2)
def rwC (ws : List Str) : Option (List Int) :=
  if ws.length = 2 ∧ ws.headD "" ∈ NUMB.map (·.1) ∧ isNumM (ws.getD 1 "") (if ws.headD "" = "push" then 100 else 60) = true then some [(lkS NUMB (ws.headD "")).getD 0, numT (ws.getD 1 "")]
  else if ws.length = 1 ∧ ws.headD "" ∈ ALON.map (·.1) then some [(lkS ALON (ws.headD "")).getD 0, 0]
  else match kindW (ws.headD "") with
    | some k => if ws.length = 1 ∧ 8 ≤ k then some [10, k] else none
    | none => none
def hdC (ws : List Str) : Option (List Int) := if ws.headD "" = "fun" ∧ ws.length = 4 ∧ (ws.drop 1).all isNum = true then some ((ws.drop 1).map numT) else none
def readC : List (List Str) → Nat → List (List Int) → List (List Int) → Except Nat (List (List Int) × List (List Int))
  | [], _, hs, rs => .ok (hs, rs)
  | ws :: r, i, hs, rs => match hdC ws with
    | some h => if rs = [] then readC r (i + 1) (hs ++ [h]) rs else match rwC ws with
      | some x => readC r (i + 1) hs (rs ++ [x])
      | none => .error i
    | none => match rwC ws with
      | some x => readC r (i + 1) hs (rs ++ [x])
      | none => .error i
def wordsC (l : Str) : List Str := (splitC 32 l.cps.toList).map ofL
def linesC (t : Str) : List (List Str) := ((splitC 10 t.cps.toList).map ofL).map wordsC
/-- a row as a line -/
def rowT (op n : Int) : List Str := match ALON.find? fun q => decide (q.2 = op) with
  | some q => [q.1]
  | none => match NUMB.find? fun q => decide (q.2 = op) with
    | some q => [q.1, strI n]
    | none => [WD.getD (n - 2).toNat ""]
def rwTx (r : List Int) : List Str := rowT (r.getD 0 0) (r.getD 1 0)
def hdTx (h : List Int) : List Str := "fun" :: h.map strI
def codeTx (hs rs : List (List Int)) : Str := Txt.join "\n" ((hs.map hdTx ++ rs.map rwTx).map fun ws => Txt.join " " ws)
/-- numbers of at most a hundred figures are pushed -/
def PushOK (rs : List (List Int)) : Prop := ∀ r ∈ rs, r.getD 0 0 = 0 → (r.getD 1 0).natAbs < 10 ^ 100
theorem splitC_join {c : Nat} : ∀ {ls : List Str}, ls ≠ [] → (∀ l ∈ ls, c ∉ l.cps.toList) → (splitC c (Str.join ⟨#[c]⟩ ls).cps.toList).map ofL = ls
  | [], h, _ => absurd rfl h
  | [l], _, h => by
    show (splitC c l.cps.toList).map ofL = [l]
    rw [splitC_none (h l List.mem_cons_self)]; rfl
  | l :: m :: r, _, h => by
    have ih := splitC_join (ls := m :: r) (by simp) fun x hx => h x (List.mem_cons_of_mem _ hx)
    rw [join_cons2, Str.cps_append, Str.cps_append, Array.toList_append, Array.toList_append, List.append_assoc]
    show (splitC c (l.cps.toList ++ c :: (Str.join ⟨#[c]⟩ (m :: r)).cps.toList)).map ofL = _
    rw [splitC_app, List.map_append, ih, splitC_none (h l List.mem_cons_self)]
    rfl
theorem wordsC_line {ws : List Str} (hw : ws ≠ []) (h : ∀ w ∈ ws, Clean w) : wordsC (Txt.join " " ws) = ws := by
  unfold wordsC
  rw [txt_join, bl_is]
  exact splitC_join hw fun w hh z => by have := ((h w hh).2 _ z).1; omega
theorem join_mem {c : Nat} {sep : Str} : ∀ {ls : List Str}, c ∉ sep.cps.toList → (∀ l ∈ ls, c ∉ l.cps.toList) → c ∉ (Str.join sep ls).cps.toList
  | [], _, _ => by show c ∉ Str.empty.cps.toList; exact fun z => by cases z
  | [l], _, h => h l List.mem_cons_self
  | l :: m :: r, hs, h => by
    have ih := join_mem (ls := m :: r) hs fun x hx => h x (List.mem_cons_of_mem _ hx)
    rw [join_cons2, Str.cps_append, Str.cps_append, Array.toList_append, Array.toList_append]
    intro z
    rcases List.mem_append.mp z with z | z
    · rcases List.mem_append.mp z with z | z
      · exact h l List.mem_cons_self z
      · exact hs z
    · exact ih z
theorem linesC_code {lss : List (List Str)} (h0 : lss ≠ []) (hn : ∀ ws ∈ lss, ws ≠ [] ∧ ∀ w ∈ ws, Clean w) : linesC (Txt.join "\n" (lss.map fun ws => Txt.join " " ws)) = lss := by
  unfold linesC
  rw [txt_join, nl_is, splitC_join (by simpa using h0) (fun l hl => by
    obtain ⟨ws, hw, rfl⟩ := List.mem_map.mp hl
    rw [txt_join, bl_is]
    exact join_mem (by show (10 : Nat) ∉ [32]; decide) fun w hh z => by have := (((hn ws hw).2 w hh).2 _ z).1; omega)]
  rw [List.map_map]
  have : ∀ ws ∈ lss, (wordsC ∘ fun ws => Txt.join " " ws) ws = ws := fun ws hw => wordsC_line (hn ws hw).1 (hn ws hw).2
  rw [List.map_congr_left this, List.map_id']
theorem readC_hds : ∀ {hs : List (List Int)} {r : List (List Str)} {i : Nat} {hs0 : List (List Int)}, (∀ h ∈ hs, hdC (hdTx h) = some h) → readC (hs.map hdTx ++ r) i hs0 [] = readC r (i + hs.length) (hs0 ++ hs) []
  | [], r, i, hs0, _ => by simp
  | h :: hs, r, i, hs0, e => by
    rw [List.map_cons, List.cons_append, readC, e h List.mem_cons_self]
    dsimp only
    rw [if_pos rfl, readC_hds fun x hx => e x (List.mem_cons_of_mem _ hx), List.append_assoc, List.length_cons]
    rw [show i + 1 + hs.length = i + (hs.length + 1) by omega]
    rfl
theorem readC_rows : ∀ {rs : List (List Int)} {i : Nat} {hs rs0 : List (List Int)}, (∀ r ∈ rs, hdC (rwTx r) = none ∧ rwC (rwTx r) = some r) → readC (rs.map rwTx) i hs rs0 = .ok (hs, rs0 ++ rs)
  | [], i, hs, rs0, _ => by rw [List.append_nil]; rfl
  | r :: rs, i, hs, rs0, e => by
    have e0 := e r List.mem_cons_self
    rw [List.map_cons, readC, e0.1, e0.2]
    dsimp only
    rw [readC_rows fun x hx => e x (List.mem_cons_of_mem _ hx), List.append_assoc]
    rfl
theorem small60 {n : Int} {B : Nat} (h0 : 0 ≤ n) (h : n < B) (hB : B ≤ 100000) : n.natAbs < 10 ^ 60 := Nat.lt_of_lt_of_le (m := 10 ^ 6) (by omega) (Nat.pow_le_pow_right (by decide) (by decide))
theorem head_read {h : List Int} {i m : Nat} (H : HeadOK h i m) (hm : m ≤ 100000) : hdC (hdTx h) = some h := by
  obtain ⟨s, p, b, rfl, s0, s1, p0, p1, pb, b12⟩ := H
  have p4 : p ≤ 4 := by split at p1 <;> omega
  have a1 := isNum_str (small60 s0 s1 hm)
  have a2 := isNum_str (small60 (B := 5) p0 (by omega) (by decide))
  have a3 := isNum_str (small60 (n := b) (B := 13) (by omega) (by omega) (by decide))
  have e : hdTx [s, p, b] = [("fun" : Str), strI s, strI p, strI b] := rfl
  rw [e]
  unfold hdC
  rw [if_pos ⟨rfl, rfl, by simp [a1.1, a2.1, a3.1]⟩]
  simp [a1.2, a2.2, a3.2]
theorem num_row {w : Str} {o n : Int} (e : rowT o n = [w, strI n]) (hw : w ∈ NUMB.map (·.1)) (hp : w ≠ "push") (hf : w ≠ "fun") (hl : lkS NUMB w = some o) (hc : Clean w) (hn : n.natAbs < 10 ^ 60) : hdC (rwTx [o, n]) = none ∧ rwC (rwTx [o, n]) = some [o, n] ∧ rwTx [o, n] ≠ [] ∧ ∀ x ∈ rwTx [o, n], Clean x := by
  have e' : rwTx [o, n] = [w, strI n] := e
  rw [e']
  have a := isNum_str hn
  refine ⟨?_, ?_, by simp, fun x hx => ?_⟩
  · unfold hdC
    rw [if_neg fun z => hf z.1]
  · unfold rwC
    rw [if_pos ⟨rfl, hw, by show isNumM (strI n) (if w = "push" then 100 else 60) = true; rw [if_neg hp]; exact a.1⟩]
    show some [(lkS NUMB w).getD 0, numT (strI n)] = _
    rw [hl, a.2]; rfl
  · simp only [List.mem_cons, List.not_mem_nil, or_false] at hx
    rcases hx with z | z
    · rw [z]; exact hc
    · rw [z]; exact clean_num n
theorem one_row {w : Str} {o n : Int} (e : rwTx [o, n] = [w]) (hf : w ≠ "fun") (hr : rwC [w] = some [o, n]) (hc : Clean w) : hdC (rwTx [o, n]) = none ∧ rwC (rwTx [o, n]) = some [o, n] ∧ rwTx [o, n] ≠ [] ∧ ∀ x ∈ rwTx [o, n], Clean x := by
  rw [e]
  refine ⟨?_, hr, by simp, fun x hx => by rw [List.mem_singleton.mp hx]; exact hc⟩
  unfold hdC
  rw [if_neg fun z => hf z.1]
theorem row_read {op n : Int} {fs m : Nat} (R : OpOK op n fs m) (hf : fs ≤ 16) (hm : m ≤ 100000) (hp : op = 0 → n.natAbs < 10 ^ 100) : hdC (rwTx [op, n]) = none ∧ rwC (rwTx [op, n]) = some [op, n] ∧ rwTx [op, n] ≠ [] ∧ ∀ x ∈ rwTx [op, n], Clean x := by
  unfold OpOK at R
  rcases R with z | ⟨z, a, b⟩ | ⟨z, a, b⟩ | ⟨z, a, b⟩ | ⟨z, a⟩ | ⟨z, a, b⟩ | ⟨z, a, b⟩
  · subst z
    have h := hp rfl
    have e' : rwTx [0, n] = [("push" : Str), strI n] := rfl
    rw [e']
    refine ⟨?_, ?_, by simp, fun x hx => ?_⟩
    · unfold hdC
      rw [if_neg fun z => absurd (show ("push" : Str) = "fun" from z.1) (by decide +kernel)]
    · unfold rwC
      rw [if_pos ⟨rfl, show ("push" : Str) ∈ NUMB.map (·.1) by decide +kernel, by show isNumM (strI n) (if ("push" : Str) = "push" then 100 else 60) = true; rw [if_pos rfl]; exact isNumM_str (k := 100) (by decide) h⟩]
      show some [(lkS NUMB "push").getD 0, numT (strI n)] = _
      rw [numT_str (pow_le600 h (by decide)), show (lkS NUMB "push").getD 0 = 0 by decide +kernel]
    · simp only [List.mem_cons, List.not_mem_nil, or_false] at hx
      rcases hx with z | z
      · rw [z]; unfold Clean; decide +kernel
      · rw [z]; exact clean_num n
  · have hn := small60 (B := 12) a (by omega) (by decide)
    rcases z with z | z <;> subst z
    · exact num_row (w := "get") rfl (by decide +kernel) (by decide +kernel) (by decide +kernel) (by decide +kernel) (by unfold Clean; decide +kernel) hn
    · exact num_row (w := "set") rfl (by decide +kernel) (by decide +kernel) (by decide +kernel) (by decide +kernel) (by unfold Clean; decide +kernel) hn
  · have hn := small60 a b hm
    rcases z with z | z <;> subst z
    · exact num_row (w := "jump") rfl (by decide +kernel) (by decide +kernel) (by decide +kernel) (by decide +kernel) (by unfold Clean; decide +kernel) hn
    · exact num_row (w := "unless") rfl (by decide +kernel) (by decide +kernel) (by decide +kernel) (by decide +kernel) (by unfold Clean; decide +kernel) hn
  · have hn := small60 a b (by omega)
    subst z
    exact num_row (w := "call") rfl (by decide +kernel) (by decide +kernel) (by decide +kernel) (by decide +kernel) (by unfold Clean; decide +kernel) hn
  · subst a
    rcases z with z | z | z | z <;> subst z
    · exact one_row (w := "drop") rfl (by decide +kernel) (by decide +kernel) (by unfold Clean; decide +kernel)
    · exact one_row (w := "back") rfl (by decide +kernel) (by decide +kernel) (by unfold Clean; decide +kernel)
    · exact one_row (w := "fail") rfl (by decide +kernel) (by decide +kernel) (by unfold Clean; decide +kernel)
    · exact one_row (w := "breath") rfl (by decide +kernel) (by decide +kernel) (by unfold Clean; decide +kernel)
  · subst z
    have h : n = 8 ∨ n = 9 ∨ n = 10 ∨ n = 11 ∨ n = 12 ∨ n = 13 ∨ n = 14 ∨ n = 15 ∨ n = 16 ∨ n = 17 ∨ n = 18 ∨ n = 19 := by omega
    rcases h with h | h | h | h | h | h | h | h | h | h | h | h <;> subst h <;> exact one_row rfl (by decide +kernel) (by decide +kernel) (by unfold Clean; decide +kernel)
  · have hn := small60 (n := n) (B := 13) (by omega) (by omega) (by decide)
    subst z
    exact num_row (w := "pick") rfl (by decide +kernel) (by decide +kernel) (by decide +kernel) (by decide +kernel) (by unfold Clean; decide +kernel) hn
theorem head_clean {h : List Int} {i m : Nat} (H : HeadOK h i m) : hdTx h ≠ [] ∧ ∀ x ∈ hdTx h, Clean x := by
  unfold hdTx
  refine ⟨by simp, fun x hx => ?_⟩
  rcases List.mem_cons.mp hx with z | z
  · rw [z]; exact clean_kw.1
  · obtain ⟨v, _, rfl⟩ := List.mem_map.mp z
    exact clean_num v
/-- a code's text is read as the code -/
theorem read_codeT {hs rs : List (List Int)} (C : CodeOK hs rs) (hp : PushOK rs) (hl : rs.length ≤ 100000) : readC (linesC (codeTx hs rs)) 0 [] [] = .ok (hs, rs) := by
  have hr : ∀ r ∈ rs, hdC (rwTx r) = none ∧ rwC (rwTx r) = some r ∧ rwTx r ≠ [] ∧ ∀ x ∈ rwTx r, Clean x := fun r hr => by
    obtain ⟨op, n, e, ok⟩ := C.rw r hr
    have pu := hp r hr
    subst e
    exact row_read ok C.h16 hl pu
  have hh : ∀ h ∈ hs, ∃ i, HeadOK h i rs.length := fun h hh => by
    obtain ⟨i, hi⟩ := List.mem_iff_getElem?.mp hh
    exact ⟨i, C.hd i h hi⟩
  unfold codeTx
  rw [linesC_code (by
    intro z
    have := C.h1
    have := congrArg List.length z
    simp only [List.length_append, List.length_map, List.length_nil] at this
    omega) fun ws hw => by
    rcases List.mem_append.mp hw with z | z
    · obtain ⟨h, hm, rfl⟩ := List.mem_map.mp z
      obtain ⟨i, H⟩ := hh h hm
      exact head_clean H
    · obtain ⟨r, hm, rfl⟩ := List.mem_map.mp z
      exact (hr r hm).2.2]
  rw [readC_hds fun h hm => (hh h hm).elim fun i H => head_read H hl, List.nil_append, readC_rows fun r hm => ⟨(hr r hm).1, (hr r hm).2.1⟩]
  rfl
theorem alon_at {i : Nat} {k : Str} {v : Int} (e : ALON[i]? = some (k, v)) (n : Int) : rwTx [v, n] = [k] := by
  match i, e with
  | 0, e => cases e; rfl
  | 1, e => cases e; rfl
  | 2, e => cases e; rfl
  | 3, e => cases e; rfl
theorem numb_at {i : Nat} {k : Str} {v : Int} (e : NUMB[i]? = some (k, v)) (n : Int) : rwTx [v, n] = [k, strI n] := by
  match i, e with
  | 0, e => cases e; rfl
  | 1, e => cases e; rfl
  | 2, e => cases e; rfl
  | 3, e => cases e; rfl
  | 4, e => cases e; rfl
  | 5, e => cases e; rfl
  | 6, e => cases e; rfl
theorem keys_at {l : List (Str × Int)} {i : Nat} {k : Str} (e : (l.map (·.1))[i]? = some k) : ∃ v, l[i]? = some (k, v) ∧ (k, v) ∈ l := by
  rw [List.getElem?_map] at e
  obtain ⟨q, hq, rfl⟩ := Option.map_eq_some_iff.mp e
  exact ⟨q.2, hq, List.mem_of_getElem? hq⟩
theorem join1 (w : Str) : Txt.join " " [w] = w := by rw [txt_join]; rfl
theorem join2 (w v : Str) : Txt.join " " [w, v] = w ++ (" " : Str) ++ v := by rw [txt_join]; rfl
theorem lg100 {v : Int} (h : v.natAbs < 10 ^ 100) : v.natAbs.log2 < 1920 := Nat.lt_of_lt_of_le (PySem.Flt.log2_lt_of (k := 400) (by decide) (Nat.lt_of_lt_of_le h (by decide +kernel))) (by decide)
theorem strI_len {v : Int} (h : v.natAbs < 10 ^ 100) : (strI v).length ≤ 101 := by
  have l := TL.numL_len (k := 100) (by decide) h
  rw [len_ls, strI_ls]
  unfold sgI
  split
  · rw [List.length_cons]; omega
  · omega
theorem op_num {op n : Int} {fs m : Nat} (R : OpOK op n fs m) (hA : ∀ (j : Nat) (k : Str) (v : Int), ALON[j]? = some (k, v) → v ≠ op) (hN : ∀ (j : Nat) (k : Str) (v : Int), NUMB[j]? = some (k, v) → v ≠ op) : op = 10 ∧ 8 ≤ n ∧ n ≤ 19 := by
  unfold OpOK at R
  rcases R with z | ⟨z, _⟩ | ⟨z, _⟩ | ⟨z, _⟩ | ⟨z, _⟩ | ⟨z, a, b⟩ | ⟨z, _⟩
  · exact absurd z.symm (hN 0 _ _ rfl)
  · rcases z with z | z
    · exact absurd z.symm (hN 1 _ _ rfl)
    · exact absurd z.symm (hN 2 _ _ rfl)
  · rcases z with z | z
    · exact absurd z.symm (hN 3 _ _ rfl)
    · exact absurd z.symm (hN 4 _ _ rfl)
  · exact absurd z.symm (hN 5 _ _ rfl)
  · rcases z with z | z | z | z
    · exact absurd z.symm (hA 0 _ _ rfl)
    · exact absurd z.symm (hA 1 _ _ rfl)
    · exact absurd z.symm (hA 2 _ _ rfl)
    · exact absurd z.symm (hA 3 _ _ rfl)
  · exact ⟨z, a, b⟩
  · exact absurd z.symm (hN 6 _ _ rfl)
theorem numb_len {i : Nat} {k : Str} {v : Int} (e : NUMB[i]? = some (k, v)) : k.length ≤ 10 := by
  match i, e with
  | 0, e => cases e; decide +kernel
  | 1, e => cases e; decide +kernel
  | 2, e => cases e; decide +kernel
  | 3, e => cases e; decide +kernel
  | 4, e => cases e; decide +kernel
  | 5, e => cases e; decide +kernel
  | 6, e => cases e; decide +kernel
theorem lkS_numb {w : Str} {v : Int} (m : (w, v) ∈ NUMB) : lkS NUMB w = some v := by
  simp only [NUMB, List.mem_cons, List.not_mem_nil, or_false, Prod.mk.injEq] at m
  rcases m with ⟨a, b⟩ | ⟨a, b⟩ | ⟨a, b⟩ | ⟨a, b⟩ | ⟨a, b⟩ | ⟨a, b⟩ | ⟨a, b⟩ <;> subst a <;> subst b <;> decide +kernel
theorem lkS_alon {w : Str} {v : Int} (m : (w, v) ∈ ALON) : lkS ALON w = some v := by
  simp only [ALON, List.mem_cons, List.not_mem_nil, or_false, Prod.mk.injEq] at m
  rcases m with ⟨a, b⟩ | ⟨a, b⟩ | ⟨a, b⟩ | ⟨a, b⟩ <;> subst a <;> subst b <;> decide +kernel
theorem mem_keys {l : List (Str × Int)} {w : Str} (h : w ∈ l.map (·.1)) : ∃ v, (w, v) ∈ l := by
  obtain ⟨q, hq, rfl⟩ := List.mem_map.mp h
  exact ⟨q.2, hq⟩
theorem cut_tail (w : Str) (r : List Str) : cutV ((w :: r).map V.str) (some 1) none = r.map V.str := by
  unfold cutV
  rw [HT.sIx_none, show (1 : Int) = ((1 : Nat) : Int) from rfl, HT.sIx_nat]
  simp
  exact List.take_of_length_le (by rw [List.length_map]; exact Nat.le_refl _)
theorem small60' {v : Int} (h : v.natAbs ≤ 1000000) : v.natAbs < 10 ^ 60 := Nat.lt_of_le_of_lt h (Nat.lt_of_lt_of_le (by decide : 1000000 < 10 ^ 7) (Nat.pow_le_pow_right (by decide) (by decide)))
theorem small100 {v : Int} (h : v.natAbs ≤ 1000000) : v.natAbs < 10 ^ 100 := Nat.lt_of_lt_of_le (small60' h) (Nat.pow_le_pow_right (by decide) (by decide))
theorem row_fig {op n : Int} {fs m : Nat} (R : OpOK op n fs m) (hf : fs ≤ 16) (hm : m ≤ 100000) (hp : op = 0 → n.natAbs < 10 ^ 100) : n.natAbs < 10 ^ 100 := by
  unfold OpOK at R
  rcases R with z | ⟨_, a, b⟩ | ⟨_, a, b⟩ | ⟨_, a, b⟩ | ⟨_, a⟩ | ⟨_, a, b⟩ | ⟨_, a, b⟩
  · exact hp z
  all_goals exact small100 (by omega)
theorem alon_len {q : Str × Int} (h : q ∈ ALON) : q.1.length ≤ 10 := by
  simp only [ALON, List.mem_cons, List.not_mem_nil, or_false] at h
  rcases h with e | e | e | e <;> subst e <;> decide +kernel
theorem numb_lenm {q : Str × Int} (h : q ∈ NUMB) : q.1.length ≤ 10 := by
  simp only [NUMB, List.mem_cons, List.not_mem_nil, or_false] at h
  rcases h with e | e | e | e | e | e | e <;> subst e <;> decide +kernel
theorem WD_lens : ∀ i : _root_.Fin 18, (WD.getD i.val "").length ≤ 8 := by decide +kernel
theorem row_len {op n : Int} (hn : n.natAbs < 10 ^ 100) : (Txt.join " " (rwTx [op, n])).length ≤ 120 := by
  have b1 : (" " : Str).length = 1 := by decide +kernel
  have ln := strI_len hn
  show (Txt.join " " (rowT op n)).length ≤ 120
  unfold rowT
  split
  · rename_i q e
    rw [join1]
    have := alon_len (List.mem_of_find?_eq_some e); omega
  · split
    · rename_i q e
      rw [join2, Str.length_append, Str.length_append, b1]
      have := numb_lenm (List.mem_of_find?_eq_some e); omega
    · rw [join1]
      by_cases c : (n - 2).toNat < 18
      · have := WD_lens ⟨_, c⟩
        have h : (WD.getD (n - 2).toNat "").length ≤ 8 := this
        omega
      · rw [List.getD_eq_getElem?_getD, List.getElem?_eq_none (by rw [WD_len]; omega)]
        decide +kernel
theorem sum_bound {B : Nat} : ∀ {l : List Nat}, (∀ x ∈ l, x ≤ B) → l.sum ≤ l.length * B
  | [], _ => Nat.zero_le _
  | x :: l, h => by
    have h1 := h x List.mem_cons_self
    have h2 := sum_bound fun y hy => h y (List.mem_cons_of_mem _ hy)
    rw [List.sum_cons, List.length_cons, Nat.succ_mul]; omega
theorem head_len {h : List Int} {i m : Nat} (H : HeadOK h i m) (hm : m ≤ 100000) : (Txt.join " " (hdTx h)).length ≤ 400 := by
  obtain ⟨s, p, b, rfl, s0, s1, p0, p1, pb, b12⟩ := H
  have p4 : p ≤ 4 := by split at p1 <;> omega
  have b1 : (" " : Str).length = 1 := by decide +kernel
  have f1 : ("fun" : Str).length = 3 := by decide +kernel
  have l1 := strI_len (v := s) (small100 (by omega))
  have l2 := strI_len (v := p) (small100 (by omega))
  have l3 := strI_len (v := b) (small100 (by omega))
  have e : Txt.join " " (hdTx [s, p, b]) = ("fun" : Str) ++ (" " : Str) ++ (strI s ++ (" " : Str) ++ (strI p ++ (" " : Str) ++ strI b)) := by rw [txt_join]; rfl
  rw [e]
  simp only [Str.length_append, b1, f1]
  omega
theorem lines_bound {hs rs : List (List Int)} (C : CodeOK hs rs) (hp : PushOK rs) (hr : rs.length ≤ 100000) : ∀ w ∈ (hs.map hdTx ++ rs.map rwTx).map (fun ws => Txt.join " " ws), w.length ≤ 400 := fun w hw => by
  obtain ⟨ws, hws, rfl⟩ := List.mem_map.mp hw
  rcases List.mem_append.mp hws with z | z
  · obtain ⟨h, hh, rfl⟩ := List.mem_map.mp z
    obtain ⟨i, hi⟩ := List.mem_iff_getElem?.mp hh
    exact head_len (C.hd i h hi) hr
  · obtain ⟨r, hh, rfl⟩ := List.mem_map.mp z
    obtain ⟨op, n, e, ok⟩ := C.rw r hh
    have pu := hp r hh
    subst e
    exact Nat.le_trans (row_len (row_fig ok C.h16 hr pu)) (by decide)
theorem head_join (s p b : Int) : ("fun " : Str) ++ Txt.join " " [strI s, strI p, strI b] = Txt.join " " (hdTx [s, p, b]) := by
  rw [txt_join, txt_join, show ("fun " : Str) = ("fun" : Str) ++ (" " : Str) by decide +kernel]
  rfl
theorem join_len {sep : Str} {B : Nat} : ∀ {ls : List Str}, (∀ w ∈ ls, w.length ≤ B) → (Str.join sep ls).length ≤ ls.length * (B + sep.length)
  | [], _ => by show Str.empty.length ≤ _; exact Nat.zero_le _
  | [w], h => by
    have := h w List.mem_cons_self
    show w.length ≤ 1 * (B + sep.length)
    omega
  | w :: v :: r, h => by
    have h1 := h w List.mem_cons_self
    have h2 := join_len (sep := sep) (ls := v :: r) fun x hx => h x (List.mem_cons_of_mem _ hx)
    rw [join_cons2, Str.length_append, Str.length_append, List.length_cons, Nat.succ_mul]
    omega
theorem code_len {hs rs : List (List Int)} (C : CodeOK hs rs) (hp : PushOK rs) (hr : rs.length ≤ 30) : (codeTx hs rs).length ≤ 900000 := by
  unfold codeTx
  have h16 := C.h16
  have nl1 : ("\n" : Str).length = 1 := by decide +kernel
  have h := join_len (sep := "\n") (lines_bound C hp (by omega))
  rw [nl1] at h
  rw [txt_join]
  simp only [List.length_map, List.length_append] at h
  omega
theorem code_ok {hs rs : List (List Int)} (C : CodeOK hs rs) (hp : PushOK rs) (hl : rs.length ≤ 100000) : PyData.strOk (codeTx hs rs) = true := by
  unfold codeTx
  rw [txt_join]
  refine strOk_join (by decide +kernel) fun w hw => ?_
  obtain ⟨ws, hws, rfl⟩ := List.mem_map.mp hw
  rw [txt_join]
  refine strOk_join (by decide +kernel) fun x hx => ?_
  rcases List.mem_append.mp hws with z | z
  · obtain ⟨h, hh, rfl⟩ := List.mem_map.mp z
    obtain ⟨i, hi⟩ := List.mem_iff_getElem?.mp hh
    exact ((head_clean (C.hd i h hi)).2 x hx).ok
  · obtain ⟨r, hh, rfl⟩ := List.mem_map.mp z
    obtain ⟨op, n, e, ok⟩ := C.rw r hh
    have pu := hp r hh
    subst e
    exact ((row_read ok C.h16 hl pu).2.2.2 x hx).ok

def SqS (H : Hp) (l : Addr) (ws : List Str) : Prop := H l = some (.lst (ws.map V.str))
def q_row_in (Z : Adr) (a : V) (H : Hp) (Q : VK) (E : XK) : Prop := ∃ (l : Addr) (ws : List Str), a = .ref l ∧ SqS H l ws ∧ 1 ≤ ws.length ∧ ws.length ≤ 1000000 ∧ (∀ w ∈ ws, w.length ≤ 1000000) ∧ (∀ r, rwC ws = some r → ∀ t H', Same H H' → H' t = some (.tup (r.map V.int)) → Q (.ref t) H') ∧ (rwC ws = none → ∀ H', Same H H' → Q .non H')
def q_head_in (Z : Adr) (a : V) (H : Hp) (Q : VK) (E : XK) : Prop := ∃ (l : Addr) (ws : List Str), a = .ref l ∧ SqS H l ws ∧ 1 ≤ ws.length ∧ ws.length ≤ 1000000 ∧ (∀ w ∈ ws, w.length ≤ 1000000) ∧ (∀ h, hdC ws = some h → ∀ t H', Same H H' → H' t = some (.tup (h.map V.int)) → Q (.ref t) H') ∧ (hdC ws = none → ∀ H', Same H H' → Q .non H')
def q_Lnumber (Z : Adr) (a b : V) (H : Hp) (Q : VK) (E : XK) : Prop := ∃ (p : Addr) (n g : Int), a = .ref p ∧ b = .int g ∧ 1 ≤ g ∧ g ≤ 4 ∧ n ≤ 100000000000 ∧ Pl n H p ∧ ∀ v H', v.natAbs < 10 ^ 100 → (g = 1 → v.natAbs < 10 ^ 60) → Pl (n + 4) H' p → But p H H' → Q (.int v) H'
def q_Lrow (Z : Adr) (a b c d : V) (H : Hp) (Q : VK) (E : XK) : Prop := ∃ (p : Addr) (n g : Int) (fs m : Nat), a = .ref p ∧ b = .int fs ∧ c = .int m ∧ d = .int g ∧ 1 ≤ fs ∧ fs ≤ 16 ∧ 1 ≤ m ∧ m ≤ 30 ∧ 1 ≤ g ∧ g ≤ 4 ∧ n ≤ 10000000000 ∧ Pl n H p ∧ ∀ t op v H', OpOK op v fs m → v.natAbs < 10 ^ 100 → Pl (n + 10) H' p → But p H H' → H' t = some (.tup [.int op, .int v, .str (Txt.join " " (rwTx [op, v]))]) → Q (.ref t) H'
def q_Lcode (Z : Adr) (a b c d : V) (H : Hp) (Q : VK) (E : XK) : Prop := ∃ (p : Addr) (n g most long : Int), a = .ref p ∧ b = .int most ∧ c = .int long ∧ d = .int g ∧ 1 ≤ most ∧ most ≤ 16 ∧ 1 ≤ long ∧ long ≤ 30 ∧ 1 ≤ g ∧ g ≤ 4 ∧ n ≤ 100000000 ∧ Pl n H p ∧
  ∀ (t lc ll : Addr) (hs rs : List (List Int)) H', CodeOK hs rs → PushOK rs → rs.length ≤ 30 → H' t = some (.tup [.ref lc, .ref ll]) → H' lc = some (.lst ((codeL hs rs).map V.int)) → SqS H' ll ((hs.map hdTx ++ rs.map rwTx).map fun ws => Txt.join " " ws) → Pl (n + 2000) H' p → But p H H' → Q (.ref t) H'

/-! ### texts that are no codes -/
theorem readC_rows' : ∀ {rs : List (List Int)} {r : List (List Str)} {i : Nat} {hs rs0 : List (List Int)}, (∀ x ∈ rs, hdC (rwTx x) = none ∧ rwC (rwTx x) = some x) → readC (rs.map rwTx ++ r) i hs rs0 = readC r (i + rs.length) hs (rs0 ++ rs)
  | [], r, i, hs, rs0, _ => by simp
  | x :: rs, r, i, hs, rs0, e => by
    have e0 := e x List.mem_cons_self
    rw [List.map_cons, List.cons_append, readC, e0.1, e0.2]
    dsimp only
    rw [readC_rows' fun y hy => e y (List.mem_cons_of_mem _ hy), List.append_assoc, List.length_cons]
    rw [show i + 1 + rs.length = i + (rs.length + 1) by omega]
    rfl
/-- what is read ahead of a line -/
theorem readC_pre {hs rs : List (List Int)} (h1 : ∀ h ∈ hs, hdC (hdTx h) = some h) (h2 : ∀ x ∈ rs, hdC (rwTx x) = none ∧ rwC (rwTx x) = some x) {at_ : Nat} (ha : at_ ≤ hs.length + rs.length) (rest : List (List Str)) :
    readC ((hs.map hdTx ++ rs.map rwTx).take at_ ++ rest) 0 [] [] = readC rest at_ (hs.take at_) (rs.take (at_ - hs.length)) := by
  rw [List.take_append, List.length_map, ← List.map_take, ← List.map_take, List.append_assoc]
  rw [readC_hds fun h hh => h1 h (List.mem_of_mem_take hh), readC_rows' fun h hh => h2 h (List.mem_of_mem_take hh)]
  rw [List.length_take, List.length_take, List.nil_append, List.nil_append]
  congr 1
  omega
theorem readC_bad {b : List Str} {r : List (List Str)} {i : Nat} {hs rs : List (List Int)} (h : rwC b = none) (h2 : hdC b = none ∨ rs ≠ []) : readC (b :: r) i hs rs = .error i := by
  rw [readC, h]
  cases e : hdC b with
  | none => rfl
  | some x =>
    dsimp only
    rcases h2 with h2 | h2
    · rw [e] at h2; cases h2
    · rw [if_neg h2]
theorem hdC_len {b : List Str} {h : List Int} (e : hdC b = some h) : h.length = 3 := by
  unfold hdC at e
  split at e
  · rename_i c
    cases e
    rw [List.length_map, List.length_drop]; omega
  · cases e
theorem rwC_len {b : List Str} {x : List Int} (e : rwC b = some x) : x.length = 2 := by
  unfold rwC at e
  by_cases c1 : b.length = 2 ∧ b.headD "" ∈ NUMB.map (·.1) ∧ isNumM (b.getD 1 "") (if b.headD "" = "push" then 100 else 60) = true
  · rw [if_pos c1] at e
    have := Option.some.inj e
    rw [← this]; rfl
  · rw [if_neg c1] at e
    by_cases c2 : b.length = 1 ∧ b.headD "" ∈ ALON.map (·.1)
    · rw [if_pos c2] at e
      have := Option.some.inj e
      rw [← this]; rfl
    · rw [if_neg c2] at e
      cases k : kindW (b.headD "") with
      | none => rw [k] at e; cases e
      | some n =>
        rw [k] at e
        dsimp only at e
        by_cases c3 : b.length = 1 ∧ 8 ≤ n
        · rw [if_pos c3] at e
          have := Option.some.inj e
          rw [← this]; rfl
        · rw [if_neg c3] at e; cases e
theorem readC_len : ∀ {ls : List (List Str)} {i : Nat} {hs rs hs' rs' : List (List Int)}, readC ls i hs rs = .ok (hs', rs') → (∀ h ∈ hs, h.length = 3) → (∀ x ∈ rs, x.length = 2) → (∀ h ∈ hs', h.length = 3) ∧ (∀ x ∈ rs', x.length = 2) ∧ hs'.length + rs'.length ≤ hs.length + rs.length + ls.length
  | [], i, hs, rs, hs', rs', e, h1, h2 => by
    cases e
    exact ⟨h1, h2, by simp⟩
  | b :: ls, i, hs, rs, hs', rs', e, h1, h2 => by
    have addR : ∀ x, rwC b = some x → readC ls (i + 1) hs (rs ++ [x]) = .ok (hs', rs') → (∀ h ∈ hs', h.length = 3) ∧ (∀ x ∈ rs', x.length = 2) ∧ hs'.length + rs'.length ≤ hs.length + rs.length + (b :: ls).length := fun x ex e => by
      have := readC_len e h1 fun y hy => by
        rcases List.mem_append.mp hy with z | z
        · exact h2 y z
        · rw [List.mem_singleton.mp z]; exact rwC_len ex
      rw [List.length_append, List.length_singleton] at this
      refine ⟨this.1, this.2.1, ?_⟩
      rw [List.length_cons]; omega
    rw [readC] at e
    cases eh : hdC b with
    | none =>
      rw [eh] at e
      dsimp only at e
      cases er : rwC b with
      | none => rw [er] at e; cases e
      | some x => rw [er] at e; exact addR x er e
    | some h =>
      rw [eh] at e
      dsimp only at e
      by_cases c : rs = []
      · rw [if_pos c] at e
        have := readC_len e (fun y hy => by
          rcases List.mem_append.mp hy with z | z
          · exact h1 y z
          · rw [List.mem_singleton.mp z]; exact hdC_len eh) h2
        rw [List.length_append, List.length_singleton] at this
        refine ⟨this.1, this.2.1, ?_⟩
        rw [List.length_cons]; omega
      · rw [if_neg c] at e
        cases er : rwC b with
        | none => rw [er] at e; cases e
        | some x => rw [er] at e; exact addR x er e
theorem linesC_join {ls : List Str} (h0 : ls ≠ []) (hn : ∀ l ∈ ls, 10 ∉ l.cps.toList) : linesC (Txt.join "\n" ls) = ls.map wordsC := by
  unfold linesC
  rw [txt_join, nl_is, splitC_join h0 hn]
/-- the lines of a code -/
def lnT (hs rs : List (List Int)) : List Str := (hs.map hdTx ++ rs.map rwTx).map fun ws => Txt.join " " ws
theorem lnT_len (hs rs : List (List Int)) : (lnT hs rs).length = hs.length + rs.length := by
  unfold lnT
  rw [List.length_map, List.length_append, List.length_map, List.length_map]
/-- lines that may stand in a text -/
structure LnOK (ls : List Str) : Prop where
  nl : ∀ l ∈ ls, 10 ∉ l.cps.toList
  len : ∀ l ∈ ls, l.length ≤ 400
theorem LnOK.app {a b : List Str} (h : LnOK a) (h2 : LnOK b) : LnOK (a ++ b) := ⟨fun l hl => (List.mem_append.mp hl).elim (h.nl l) (h2.nl l), fun l hl => (List.mem_append.mp hl).elim (h.len l) (h2.len l)⟩
theorem LnOK.sub {a b : List Str} (h : LnOK a) (s : ∀ x ∈ b, x ∈ a) : LnOK b := ⟨fun l hl => h.nl l (s l hl), fun l hl => h.len l (s l hl)⟩
structure CodeR (hs rs : List (List Int)) : Prop where
  h : ∀ h ∈ hs, hdC (hdTx h) = some h
  r : ∀ x ∈ rs, hdC (rwTx x) = none ∧ rwC (rwTx x) = some x
  w : (lnT hs rs).map wordsC = hs.map hdTx ++ rs.map rwTx
  ok : LnOK (lnT hs rs)
theorem CodeOK.reads {hs rs : List (List Int)} (C : CodeOK hs rs) (hp : PushOK rs) (hl : rs.length ≤ 100000) : CodeR hs rs := by
  have hr : ∀ r ∈ rs, hdC (rwTx r) = none ∧ rwC (rwTx r) = some r ∧ rwTx r ≠ [] ∧ ∀ x ∈ rwTx r, Clean x := fun r hr => by
    obtain ⟨op, n, e, ok⟩ := C.rw r hr
    have pu := hp r hr
    subst e
    exact row_read ok C.h16 hl pu
  have hh : ∀ h ∈ hs, ∃ i, HeadOK h i rs.length := fun h hh => by
    obtain ⟨i, hi⟩ := List.mem_iff_getElem?.mp hh
    exact ⟨i, C.hd i h hi⟩
  have cl : ∀ ws ∈ hs.map hdTx ++ rs.map rwTx, ws ≠ [] ∧ ∀ x ∈ ws, Clean x := fun ws hw => by
    rcases List.mem_append.mp hw with z | z
    · obtain ⟨h, hm, rfl⟩ := List.mem_map.mp z
      obtain ⟨i, H⟩ := hh h hm
      exact head_clean H
    · obtain ⟨r, hm, rfl⟩ := List.mem_map.mp z
      exact (hr r hm).2.2
  refine ⟨fun h hm => (hh h hm).elim fun i H => head_read H hl, fun r hm => ⟨(hr r hm).1, (hr r hm).2.1⟩, ?_, ⟨fun l hl => ?_, lines_bound C hp hl⟩⟩
  · unfold lnT
    rw [List.map_map]
    have : ∀ ws ∈ hs.map hdTx ++ rs.map rwTx, (wordsC ∘ fun ws => Txt.join " " ws) ws = ws := fun ws hw => wordsC_line (cl ws hw).1 (cl ws hw).2
    rw [List.map_congr_left this, List.map_id']
  · obtain ⟨ws, hw, rfl⟩ := List.mem_map.mp hl
    rw [txt_join, bl_is]
    exact join_mem (by show (10 : Nat) ∉ [32]; decide) fun w hh z => by have := (((cl ws hw).2 w hh).2 _ z).1; omega
/-- a text that may be read -/
def Fits (t : Str) : Prop := t.length ≤ 900000 ∧ (linesC t).length ≤ 30000
theorem fits_of {ls : List Str} (h0 : ls ≠ []) (h : LnOK ls) (hl : ls.length ≤ 1000) : Fits (Txt.join "\n" ls) ∧ linesC (Txt.join "\n" ls) = ls.map wordsC := by
  have e := linesC_join h0 h.nl
  refine ⟨⟨?_, by rw [e, List.length_map]; omega⟩, e⟩
  have nl1 : ("\n" : Str).length = 1 := by decide +kernel
  have := join_len (sep := "\n") h.len
  rw [nl1] at this
  rw [txt_join]; omega
def NoStr (H : Hp) (v : V) : Prop := v = .non ∨ (∃ i, v = .int i) ∨ (∃ b, v = .bl b) ∨ (∃ p xs, v = .ref p ∧ H p = some (.lst xs)) ∨ (∃ p xs, v = .ref p ∧ H p = some (.tup xs)) ∨ ∃ p kvs, v = .ref p ∧ H p = some (.dK kvs)
theorem NoStr.ty {K : PySem.W.Frag} {H : Hp} {v : V} (h : NoStr H v) : ∃ t : String, TyX K H v (.type t) ∧ kitB t "str" = some false := by
  rcases h with rfl | ⟨i, rfl⟩ | ⟨b, rfl⟩ | ⟨p, xs, rfl, h⟩ | ⟨p, xs, rfl, h⟩ | ⟨p, kvs, rfl, h⟩
  · exact ⟨"NoneType", .base .non, by decide +kernel⟩
  · exact ⟨"int", .base (.int i), by decide +kernel⟩
  · exact ⟨"bool", .base (.bl b), by decide +kernel⟩
  · exact ⟨"list", tyx_l (SqL.of h), by decide +kernel⟩
  · exact ⟨"tuple", tyx_t (SqT.of h), by decide +kernel⟩
  · exact ⟨"dict", .base (.dK h), by decide +kernel⟩
theorem NoStr.same {H H' : Hp} {v : V} (S : Same H H') (h : NoStr H v) : NoStr H' v := by
  rcases h with h | h | h | ⟨p, xs, e, h⟩ | ⟨p, xs, e, h⟩ | ⟨p, kvs, e, h⟩
  · exact .inl h
  · exact .inr (.inl h)
  · exact .inr (.inr (.inl h))
  · exact .inr (.inr (.inr (.inl ⟨p, xs, e, S _ _ h⟩)))
  · exact .inr (.inr (.inr (.inr (.inl ⟨p, xs, e, S _ _ h⟩))))
  · exact .inr (.inr (.inr (.inr (.inr ⟨p, kvs, e, S _ _ h⟩))))
def RefT (H : Hp) (v : V) (i : Nat) : Prop := (NoStr H v ∧ i = 0) ∨ ∃ t, v = .str t ∧ Fits t ∧ readC (linesC t) 0 [] [] = .error i
def RefC (v : V) : Prop := ∃ t hs rs, v = .str t ∧ Fits t ∧ readC (linesC t) 0 [] [] = .ok (hs, rs) ∧ ¬ CodeOK hs rs
def q_read_code (Z : Adr) (a : V) (H : Hp) (Q : VK) (E : XK) : Prop := (∃ t hs rs, a = .str t ∧ Fits t ∧ readC (linesC t) 0 [] [] = .ok (hs, rs) ∧ CodeOK hs rs ∧ ∀ l H', Same H H' → H l = none → H' l = some (.lst ((codeL hs rs).map V.int)) → Q (.ref l) H') ∨ (∃ i, RefT H a i ∧ ∀ d H', Same H H' → XtAt H' d i → E (.ref Z.c_NoText) (some d) H') ∨ (RefC a ∧ ∀ H', Same H H' → E (.ref Z.c_NoCode) none H')
def q_Lcaught (Z : Adr) (a : V) (H : Hp) (Q : VK) (E : XK) : Prop := ∃ w, ((∃ i : Nat, RefT H a i ∧ w = .int (i : Int)) ∨ (RefC a ∧ w = .str "code")) ∧ ∀ H', Same H H' → Q w H'
def BADS : List Str := (["", " ", "Push 1", "push 1 1", "push 01", "push -0", "push +1", "push 1.0", "push  1", " push 1"] : List Str) ++ (["push 1 ", ("push " : Str) ++ repS "9" 101, ("jump " : Str) ++ repS "9" 61, "push x", "push 1_0", "get", "set x", "drop 0", "drop ", "back 0"] : List Str) ++ (["fail 1", "breath 1", "jump", "unless", "call", "call main", "pick", "pick 2 3", "add 1", "adds", "do 8"] : List Str) ++ (["do", "all", "all 2", "loop", "fun", "fun 0 0", "fun 0 0 0 0", "fun 0 0 x", "fun 0 00 0", "fun  0 0 0"] : List Str) ++ (["fun 0 0 0 ", "Fun 0 0 0", "with", "is", "7", "number 1", "new 0", "size 1", "jump -", "-", "push --1"] : List Str)
theorem BADS_bad : (BADS.all fun b => decide (hdC (wordsC b) = none) && decide (rwC (wordsC b) = none) && !decide (10 ∈ b.cps.toList) && decide (b.length ≤ 400)) = true := by decide +kernel
theorem FUN_bad : rwC (wordsC "fun 0 0 0") = none ∧ ¬ 10 ∈ ("fun 0 0 0" : Str).cps.toList ∧ ("fun 0 0 0" : Str).length ≤ 400 := by decide +kernel
def badT (b : Bool) : List Str := BADS ++ if b then [] else List.replicate 4 ("fun 0 0 0" : Str)
theorem badT_len (b : Bool) : 52 ≤ (badT b).length ∧ (badT b).length ≤ 56 := by cases b <;> decide +kernel
theorem badT_bad {b : Bool} {x : Str} (h : x ∈ badT b) : rwC (wordsC x) = none ∧ (hdC (wordsC x) = none ∨ b = false) ∧ ¬ 10 ∈ x.cps.toList ∧ x.length ≤ 400 := by
  unfold badT at h
  rcases List.mem_append.mp h with z | z
  · have := List.all_eq_true.mp BADS_bad x z
    simp only [Bool.and_eq_true, decide_eq_true_eq, Bool.not_eq_true', decide_eq_false_iff_not] at this
    exact ⟨this.1.1.2, .inl this.1.1.1, this.1.2, this.2⟩
  · cases b with
    | true => cases z
    | false =>
      have := List.eq_of_mem_replicate z
      subst this
      exact ⟨FUN_bad.1, .inr rfl, FUN_bad.2.1, FUN_bad.2.2⟩
def q_Lbad_lines (Z : Adr) (a : V) (H : Hp) (Q : VK) (E : XK) : Prop := ∃ b : Bool, a = .bl b ∧ ∀ l H', Same H H' → H l = none → H' l = some (.lst ((badT b).map V.str)) → Q (.ref l) H'
def q_Lline_exchanged (Z : Adr) (a b c : V) (H : Hp) (Q : VK) (E : XK) : Prop := ∃ (p ll : Addr) (n : Int) (hs rs : List (List Int)), a = .ref p ∧ b = .ref ll ∧ c = .int (hs.length : Int) ∧ CodeOK hs rs ∧ PushOK rs ∧ rs.length ≤ 30 ∧ SqS H ll (lnT hs rs) ∧ n ≤ 10000000000 ∧ Pl n H p ∧
  ∀ (t : Addr) (tx : Str) (i : Nat) H', H' t = some (.tup [.str tx, .int (i : Int)]) → (∀ H'', RefT H'' (.str tx) i) → Pl (n + 10) H' p → But p H H' → Q (.ref t) H'
def q_Lno_code (Z : Adr) (a b c : V) (H : Hp) (Q : VK) (E : XK) : Prop := ∃ (p ll : Addr) (n : Int) (hs rs : List (List Int)), a = .ref p ∧ b = .ref ll ∧ c = .int (hs.length : Int) ∧ CodeOK hs rs ∧ PushOK rs ∧ rs.length ≤ 30 ∧ SqS H ll (lnT hs rs) ∧ n ≤ 10000000000 ∧ Pl n H p ∧
  ∀ (tx : Str) H', RefC (.str tx) → Pl (n + 10) H' p → But p H H' → Q (.str tx) H'
def q_law (Z : Adr) (v : V) (H : Hp) (Q : VK) (E : XK) : Prop := ∃ (a : Addr) (ns : List Int), v = .ref a ∧ Only H ∧ Scr Z.K H a ns ∧ ns.length ≤ 63 ∧ ∀ H', Q (.bl true) H'
/-- a line put in place of another, and any line behind it -/
theorem exch_ref {hs rs : List (List Int)} (C : CodeOK hs rs) (hp : PushOK rs) (hl : rs.length ≤ 30) {at_ : Nat} (ha : at_ < hs.length + rs.length) {x : Str} (hx : x ∈ badT (decide ((at_ : Int) ≤ hs.length))) {tl : List Str} (ht : LnOK tl) (hl2 : tl.length ≤ 100) (H : Hp) :
    RefT H (.str (Txt.join "\n" ((lnT hs rs).take at_ ++ x :: tl))) at_ := by
  have R := C.reads hp (by omega)
  obtain ⟨b1, b2, b3, b4⟩ := badT_bad hx
  have ok : LnOK ((lnT hs rs).take at_ ++ x :: tl) := (R.ok.sub fun y hy => List.mem_of_mem_take hy).app ⟨fun l hl => by
    rcases List.mem_cons.mp hl with z | z
    · subst z; exact b3
    · exact ht.nl l z, fun l hl => by
    rcases List.mem_cons.mp hl with z | z
    · subst z; exact b4
    · exact ht.len l z⟩
  have h16 := C.h16
  obtain ⟨f, e⟩ := fits_of (by simp) ok (by rw [List.length_append, List.length_take, List.length_cons, lnT_len]; omega)
  refine .inr ⟨_, rfl, f, ?_⟩
  rw [e, List.map_append, List.map_take, R.w, List.map_cons, readC_pre R.h R.r (by omega)]
  refine readC_bad b1 ?_
  rcases b2 with b2 | b2
  · exact .inl b2
  · right
    have : ¬ (at_ : Int) ≤ hs.length := of_decide_eq_false b2
    intro z
    have := congrArg List.length z
    rw [List.length_take, List.length_nil] at this
    omega
theorem str_ext {a b : Str} (h : a.cps.toList = b.cps.toList) : a = b := by
  obtain ⟨a⟩ := a
  obtain ⟨b⟩ := b
  exact congrArg Str.mk (Array.ext' h)
/-- a line without signs behind all -/
theorem more_ref {hs rs : List (List Int)} (C : CodeOK hs rs) (hp : PushOK rs) (hl : rs.length ≤ 30) (H : Hp) : RefT H (.str (Txt.join "\n" (lnT hs rs) ++ "\n")) (hs.length + rs.length) := by
  have R := C.reads hp (by omega)
  have h16 := C.h16
  have h1 := C.h1
  have ok : LnOK (lnT hs rs ++ [("" : Str)]) := R.ok.app ⟨fun l hl => by rw [List.mem_singleton.mp hl]; decide +kernel, fun l hl => by rw [List.mem_singleton.mp hl]; decide +kernel⟩
  obtain ⟨f, e⟩ := fits_of (by simp) ok (by rw [List.length_append, List.length_singleton, lnT_len]; omega)
  have j : ∀ {ls : List Str}, ls ≠ [] → Str.join "\n" (ls ++ [("" : Str)]) = Str.join "\n" ls ++ ("\n" : Str) := fun {ls} h0 => by
    induction ls with
    | nil => exact absurd rfl h0
    | cons a r ih =>
      cases r with
      | nil =>
        rw [List.cons_append, List.nil_append, join_cons2]
        show a ++ ("\n" : Str) ++ ("" : Str) = a ++ ("\n" : Str)
        apply str_ext
        simp [Str.cps_append]
        rfl
      | cons b r =>
        rw [List.cons_append, List.cons_append, join_cons2, join_cons2, ← List.cons_append, ih (by simp)]
        apply str_ext
        simp [Str.cps_append]
  have e2 : Txt.join "\n" (lnT hs rs ++ [("" : Str)]) = Txt.join "\n" (lnT hs rs) ++ ("\n" : Str) := by
    rw [txt_join, txt_join, j (by intro z; have := congrArg List.length z; rw [lnT_len, List.length_nil] at this; omega)]
  rw [e2] at f e
  refine .inr ⟨_, rfl, f, ?_⟩
  have w0 : wordsC "" = [("" : Str)] := by decide +kernel
  rw [e, List.map_append, R.w, List.map_cons, List.map_nil, w0]
  have := readC_pre R.h R.r (at_ := hs.length + rs.length) (Nat.le_refl _) [[("" : Str)]]
  rw [List.take_of_length_le (by rw [List.length_append, List.length_map, List.length_map]; exact Nat.le_refl _)] at this
  rw [this]
  exact readC_bad (by decide +kernel) (.inl (by decide +kernel))
/-- heads and rows that stand in lines, and make no code -/
theorem nocode_ref {hs rs : List (List Int)} {ls : List Str} (h0 : ls ≠ []) (ok : LnOK ls) (hl : ls.length ≤ 200) (w : ls.map wordsC = hs.map hdTx ++ rs.map rwTx) (h1 : ∀ h ∈ hs, hdC (hdTx h) = some h) (h2 : ∀ x ∈ rs, hdC (rwTx x) = none ∧ rwC (rwTx x) = some x) (nc : ¬ CodeOK hs rs) : RefC (.str (Txt.join "\n" ls)) := by
  obtain ⟨f, e⟩ := fits_of h0 ok (by omega)
  refine ⟨_, hs, rs, rfl, f, ?_, nc⟩
  rw [e, w, readC_hds h1, List.nil_append, readC_rows h2, List.nil_append]
/-- a row's line, a head's line that is read back -/
structure RwR (x : List Int) : Prop where
  r : hdC (rwTx x) = none ∧ rwC (rwTx x) = some x ∧ rwTx x ≠ [] ∧ ∀ y ∈ rwTx x, Clean y
  l : (Txt.join " " (rwTx x)).length ≤ 400
structure HdR (h : List Int) : Prop where
  r : hdC (hdTx h) = some h
  c : hdTx h ≠ [] ∧ ∀ x ∈ hdTx h, Clean x
  l : (Txt.join " " (hdTx h)).length ≤ 400
theorem bl_len : (" " : Str).length = 1 := by decide +kernel
theorem small100' {v : Int} (h : v.natAbs ≤ 1000000) : v.natAbs < 10 ^ 60 := Nat.lt_of_le_of_lt h (by decide +kernel)
theorem strI_sm {v : Int} (h : v.natAbs ≤ 1000000) : (strI v).length ≤ 101 := strI_len (Nat.lt_of_lt_of_le (small100' h) (Nat.pow_le_pow_right (by decide) (by decide)))
theorem hd_sm {s p b : Int} (h1 : s.natAbs ≤ 1000000) (h2 : p.natAbs ≤ 1000000) (h3 : b.natAbs ≤ 1000000) : HdR [s, p, b] := by
  have a1 := isNum_str (small100' h1)
  have a2 := isNum_str (small100' h2)
  have a3 := isNum_str (small100' h3)
  have e : hdTx [s, p, b] = [("fun" : Str), strI s, strI p, strI b] := rfl
  refine ⟨?_, ⟨by rw [e]; simp, fun x hx => ?_⟩, ?_⟩
  · rw [e]
    unfold hdC
    rw [if_pos ⟨rfl, rfl, by simp [a1.1, a2.1, a3.1]⟩]
    simp [a1.2, a2.2, a3.2]
  · rw [e] at hx
    simp only [List.mem_cons, List.not_mem_nil, or_false] at hx
    rcases hx with z | z | z | z
    · rw [z]; exact clean_kw.1
    all_goals rw [z]; exact clean_num _
  · have l1 := strI_sm h1
    have l2 := strI_sm h2
    have l3 := strI_sm h3
    have f3 : ("fun" : Str).length = 3 := by decide +kernel
    rw [e, txt_join, join_cons2, join_cons2, join_cons2]
    show (("fun" : Str) ++ " " ++ (strI s ++ " " ++ (strI p ++ " " ++ strI b))).length ≤ 400
    simp only [Str.length_append, bl_len, f3]
    omega
theorem hd_join (s p b : Int) : Txt.join " " (hdTx [s, p, b]) = ("fun" : Str) ++ " " ++ (strI s ++ " " ++ (strI p ++ " " ++ strI b)) := by
  rw [show hdTx [s, p, b] = [("fun" : Str), strI s, strI p, strI b] from rfl, txt_join, join_cons2, join_cons2, join_cons2]
  rfl
theorem num_sm {w : Str} {o n : Int} (hi : w ∈ (["get", "set", "jump", "unless", "call", "pick"] : List Str)) (e : rowT o n = [w, strI n]) (hl : lkS NUMB w = some o) (hn : n.natAbs ≤ 1000000) : RwR [o, n] := by
  have k : w ∈ NUMB.map (·.1) ∧ w ≠ "push" ∧ w ≠ "fun" ∧ Clean w ∧ w.length ≤ 6 := by
    simp only [List.mem_cons, List.not_mem_nil, or_false] at hi
    rcases hi with z | z | z | z | z | z <;> subst z <;> unfold Clean <;> decide +kernel
  refine ⟨num_row e k.1 k.2.1 k.2.2.1 hl k.2.2.2.1 (small100' hn), ?_⟩
  rw [show rwTx [o, n] = [w, strI n] from e, join2]
  have := strI_sm hn
  have := k.2.2.2.2
  simp only [Str.length_append, bl_len]
  omega
theorem num_join {w : Str} {o n : Int} (e : rowT o n = [w, strI n]) : w ++ (" " : Str) ++ strI n = Txt.join " " (rwTx [o, n]) := by
  rw [show rwTx [o, n] = [w, strI n] from e, join2]
theorem CodeOK.rwr {hs rs : List (List Int)} (C : CodeOK hs rs) (hp : PushOK rs) (hl : rs.length ≤ 100000) : (∀ x ∈ rs, RwR x) ∧ ∀ h ∈ hs, HdR h := by
  have b := lines_bound C hp hl
  refine ⟨fun x hx => ?_, fun h hh => ?_⟩
  · obtain ⟨op, n, e, ok⟩ := C.rw x hx
    have pu := hp x hx
    subst e
    exact ⟨row_read ok C.h16 hl pu, b _ (List.mem_map.mpr ⟨_, List.mem_append_right _ (List.mem_map.mpr ⟨_, hx, rfl⟩), rfl⟩)⟩
  · obtain ⟨i, hi⟩ := List.mem_iff_getElem?.mp hh
    have H := C.hd i h hi
    exact ⟨head_read H hl, head_clean H, b _ (List.mem_map.mpr ⟨_, List.mem_append_left _ (List.mem_map.mpr ⟨_, hh, rfl⟩), rfl⟩)⟩
theorem nocode_of {hs rs : List (List Int)} (h1 : ∀ h ∈ hs, HdR h) (h2 : ∀ x ∈ rs, RwR x) (h0 : 1 ≤ hs.length + rs.length) (hl : hs.length + rs.length ≤ 200) (nc : ¬ CodeOK hs rs) : RefC (.str (Txt.join "\n" (lnT hs rs))) := by
  have cl : ∀ ws ∈ hs.map hdTx ++ rs.map rwTx, (ws ≠ [] ∧ ∀ x ∈ ws, Clean x) ∧ (Txt.join " " ws).length ≤ 400 := fun ws hw => by
    rcases List.mem_append.mp hw with z | z
    · obtain ⟨h, hm, rfl⟩ := List.mem_map.mp z
      exact ⟨(h1 h hm).c, (h1 h hm).l⟩
    · obtain ⟨r, hm, rfl⟩ := List.mem_map.mp z
      exact ⟨(h2 r hm).r.2.2, (h2 r hm).l⟩
  refine nocode_ref (by intro z; have := congrArg List.length z; rw [lnT_len, List.length_nil] at this; omega) ⟨fun l hl => ?_, fun l hl => ?_⟩ (by rw [lnT_len]; omega) ?_ (fun h hh => (h1 h hh).r) (fun x hx => ⟨(h2 x hx).r.1, (h2 x hx).r.2.1⟩) nc
  · obtain ⟨ws, hw, rfl⟩ := List.mem_map.mp hl
    rw [txt_join, bl_is]
    exact join_mem (by show (10 : Nat) ∉ [32]; decide) fun w hh z => by have := (((cl ws hw).1.2 w hh).2 _ z).1; omega
  · obtain ⟨ws, hw, rfl⟩ := List.mem_map.mp hl
    exact (cl ws hw).2
  · unfold lnT
    rw [List.map_map]
    have : ∀ ws ∈ hs.map hdTx ++ rs.map rwTx, (wordsC ∘ fun ws => Txt.join " " ws) ws = ws := fun ws hw => wordsC_line (cl ws hw).1.1 (cl ws hw).1.2
    rw [List.map_congr_left this, List.map_id']
/-- rows that can't be -/
def BR (far c : Int) : List (List Int) := [[4, far], [5, -1], [6, c], [6, -1], [1, 12], [2, 12], [1, -1], [11, 1], [11, 13], [11, 0], [5, far], [4, -7]]
theorem BR_ok {far c : Int} {fs m : Nat} (h1 : (m : Int) ≤ far ∧ far ≤ 1000) (h2 : (fs : Int) ≤ c ∧ c ≤ 1000) {x : List Int} (hx : x ∈ BR far c) : RwR x ∧ ¬ RowOK x fs m := by
  have no : ∀ {o v : Int}, ¬ OpOK o v fs m → ¬ RowOK [o, v] fs m := fun {o v} n ⟨a, b, e, ok⟩ => by cases e; exact n ok
  unfold BR at hx
  simp only [List.mem_cons, List.not_mem_nil, or_false] at hx
  rcases hx with e | e | e | e | e | e | e | e | e | e | e | e <;> subst e
  · exact ⟨num_sm (w := "jump") (by decide +kernel) rfl (by decide +kernel) (by omega), no (by unfold OpOK; omega)⟩
  · exact ⟨num_sm (w := "unless") (by decide +kernel) rfl (by decide +kernel) (by omega), no (by unfold OpOK; omega)⟩
  · exact ⟨num_sm (w := "call") (by decide +kernel) rfl (by decide +kernel) (by omega), no (by unfold OpOK; omega)⟩
  · exact ⟨num_sm (w := "call") (by decide +kernel) rfl (by decide +kernel) (by omega), no (by unfold OpOK; omega)⟩
  · exact ⟨num_sm (w := "get") (by decide +kernel) rfl (by decide +kernel) (by omega), no (by unfold OpOK; omega)⟩
  · exact ⟨num_sm (w := "set") (by decide +kernel) rfl (by decide +kernel) (by omega), no (by unfold OpOK; omega)⟩
  · exact ⟨num_sm (w := "get") (by decide +kernel) rfl (by decide +kernel) (by omega), no (by unfold OpOK; omega)⟩
  · exact ⟨num_sm (w := "pick") (by decide +kernel) rfl (by decide +kernel) (by omega), no (by unfold OpOK; omega)⟩
  · exact ⟨num_sm (w := "pick") (by decide +kernel) rfl (by decide +kernel) (by omega), no (by unfold OpOK; omega)⟩
  · exact ⟨num_sm (w := "pick") (by decide +kernel) rfl (by decide +kernel) (by omega), no (by unfold OpOK; omega)⟩
  · exact ⟨num_sm (w := "unless") (by decide +kernel) rfl (by decide +kernel) (by omega), no (by unfold OpOK; omega)⟩
  · exact ⟨num_sm (w := "jump") (by decide +kernel) rfl (by decide +kernel) (by omega), no (by unfold OpOK; omega)⟩
/-- heads that can't be -/
def HH (far : Int) : List (List (List Int)) := [[[0, 1, 1]], [[far, 0, 0]], [[-1, 0, 0]], [[0, 0, 13]], [[0, 0, -1]], List.replicate 17 [0, 0, 0], [[0, 0, 0], [0, 5, 5]], [[0, 0, 0], [0, 2, 1]], [[0, 0, 0], [0, -1, 0]], []]
theorem HH_ok {far : Int} {rs : List (List Int)} (h1 : (rs.length : Int) ≤ far ∧ far ≤ 1000) {x : List (List Int)} (hx : x ∈ HH far) : (∀ h ∈ x, HdR h) ∧ ¬ CodeOK x rs ∧ x.length ≤ 17 := by
  have h0 : HdR [0, 0, 0] := hd_sm (by decide) (by decide) (by decide)
  have hno : ∀ {hs : List (List Int)} {i : Nat} {s p b : Int}, hs[i]? = some [s, p, b] → ¬ HeadOK [s, p, b] i rs.length → ¬ CodeOK hs rs := fun e n C => n (C.hd _ _ e)
  have hh : ∀ {i : Nat} {s p b : Int}, (∀ z : 0 ≤ s ∧ s < rs.length ∧ 0 ≤ p ∧ p ≤ (if 0 < i then 4 else 0) ∧ p ≤ b ∧ b ≤ 12, False) → ¬ HeadOK [s, p, b] i rs.length := fun z ⟨s, p, b, e, q⟩ => by cases e; exact z q
  unfold HH at hx
  simp only [List.mem_cons, List.not_mem_nil, or_false] at hx
  rcases hx with e | e | e | e | e | e | e | e | e | e <;> subst e
  · exact ⟨fun h hh => by rw [List.mem_singleton.mp hh]; exact hd_sm (by decide) (by decide) (by decide), hno (i := 0) rfl (hh fun z => by have := z.2.2.2.1; simp at this), by decide⟩
  · exact ⟨fun h hh => by rw [List.mem_singleton.mp hh]; exact hd_sm (by omega) (by decide) (by decide), hno (i := 0) rfl (hh fun z => by omega), by show 1 ≤ 17; decide⟩
  · exact ⟨fun h hh => by rw [List.mem_singleton.mp hh]; exact hd_sm (by decide) (by decide) (by decide), hno (i := 0) rfl (hh fun z => by omega), by show 1 ≤ 17; decide⟩
  · exact ⟨fun h hh => by rw [List.mem_singleton.mp hh]; exact hd_sm (by decide) (by decide) (by decide), hno (i := 0) rfl (hh fun z => by omega), by show 1 ≤ 17; decide⟩
  · exact ⟨fun h hh => by rw [List.mem_singleton.mp hh]; exact hd_sm (by decide) (by decide) (by decide), hno (i := 0) rfl (hh fun z => by omega), by show 1 ≤ 17; decide⟩
  · exact ⟨fun h hh => by rw [List.eq_of_mem_replicate hh]; exact h0, fun C => by have := C.h16; rw [List.length_replicate] at this; omega, by decide⟩
  · refine ⟨fun h hh => ?_, hno (i := 1) rfl (hh fun z => by have := z.2.2.2.1; simp at this), by decide⟩
    simp only [List.mem_cons, List.not_mem_nil, or_false] at hh
    rcases hh with e | e <;> subst e
    · exact h0
    · exact hd_sm (by decide) (by decide) (by decide)
  · refine ⟨fun h hh => ?_, hno (i := 1) rfl (hh fun z => by omega), by decide⟩
    simp only [List.mem_cons, List.not_mem_nil, or_false] at hh
    rcases hh with e | e <;> subst e
    · exact h0
    · exact hd_sm (by decide) (by decide) (by decide)
  · refine ⟨fun h hh => ?_, hno (i := 1) rfl (hh fun z => by omega), by decide⟩
    simp only [List.mem_cons, List.not_mem_nil, or_false] at hh
    rcases hh with e | e <;> subst e
    · exact h0
    · exact hd_sm (by decide) (by decide) (by decide)
  · exact ⟨fun h hh => (by cases hh), fun C => by have := C.h1; simp at this, by decide⟩
/-- lists of lines of heads -/
def LnsAt (H : Hp) (hs : List (List Int)) (v : V) : Prop := ∃ a, v = .ref a ∧ H a = some (.lst ((lnT hs []).map V.str))
theorem LnsAt.same {H H' : Hp} {hs : List (List Int)} {v : V} (S : Same H H') (h : LnsAt H hs v) : LnsAt H' hs v := by
  obtain ⟨a, e, h⟩ := h
  exact ⟨a, e, S _ _ h⟩
theorem lnT_app (a b : List (List Int)) : lnT a [] ++ lnT [] b = lnT a b := by
  unfold lnT
  rw [← List.map_append]
  simp
theorem lnT_drop (hs rs : List (List Int)) : (lnT hs rs).drop hs.length = lnT [] rs := by
  unfold lnT
  rw [← List.map_drop, List.drop_left' (by rw [List.length_map])]
  rfl
theorem lnT_take (hs rs : List (List Int)) : (lnT hs rs).take hs.length = lnT hs [] := by
  unfold lnT
  rw [← List.map_take, List.take_left' (by rw [List.length_map])]
  simp
theorem lnT_bend (hs rs : List (List Int)) (j : Nat) (x : List Int) : (lnT hs rs).take (hs.length + j) ++ [Txt.join " " (rwTx x)] ++ (lnT hs rs).drop (hs.length + j + 1) = lnT hs (rs.take j ++ [x] ++ rs.drop (j + 1)) := by
  unfold lnT
  rw [← List.map_take, ← List.map_drop, List.take_append, List.drop_append, List.length_map]
  rw [List.take_of_length_le (by rw [List.length_map]; omega), List.drop_of_length_le (by rw [List.length_map]; omega)]
  rw [show hs.length + j - hs.length = j by omega, show hs.length + j + 1 - hs.length = j + 1 by omega]
  simp
theorem bent_rows {hs rs : List (List Int)} {j : Nat} {x : List Int} (hj : j < rs.length) (no : ¬ RowOK x hs.length rs.length) : ¬ CodeOK hs (rs.take j ++ [x] ++ rs.drop (j + 1)) := fun C => by
  have l : (rs.take j ++ [x] ++ rs.drop (j + 1)).length = rs.length := by
    rw [List.length_append, List.length_append, List.length_take, List.length_drop, List.length_singleton]; omega
  have := C.rw x (List.mem_append_left _ (List.mem_append_right _ (List.mem_singleton.mpr rfl)))
  rw [l] at this
  exact no this
theorem Pl.nestr {n : Int} {H : Hp} {p q : Addr} {hs rs : List (List Int)} (h : Pl n H p) (hq : H q = some (.lst ((lnT hs rs).map V.str))) (h0 : 1 ≤ hs.length + rs.length) : q ≠ p := by
  obtain ⟨a, b, c, _, _, _, hp⟩ := h
  refine ne_of hq hp fun z => ?_
  have hl := lnT_len hs rs
  cases e : lnT hs rs with
  | nil => rw [e] at hl; simp at hl; omega
  | cons w r => rw [e] at z; injection z with z; injection z with z _; cases z
theorem sum_lines {ls : List Str} {B : Nat} (h : ∀ l ∈ ls, l.length ≤ B) : (ls.map (·.length)).sum + ls.length * 1 ≤ ls.length * (B + 1) := by
  have := sum_bound (B := B) (l := ls.map (·.length)) fun x hx => by
    obtain ⟨w, hw, rfl⟩ := List.mem_map.mp hx
    exact h w hw
  rw [List.length_map] at this
  rw [Nat.mul_add]
  omega
theorem cut_takeS (ys : List Str) (j : Nat) : cutV (ys.map V.str) none (some (j : Int)) = (ys.take j).map V.str := by
  unfold cutV
  rw [HT.sIx_none, HT.sIx_nat, List.drop_zero, Nat.sub_zero, List.length_map, List.map_take]
  rcases Nat.le_total j ys.length with c | c
  · rw [Nat.min_eq_left c]
  · rw [Nat.min_eq_right c, List.take_of_length_le (by simp), List.take_of_length_le (by simpa using c)]
theorem cut_dropS (ys : List Str) (j : Nat) : cutV (ys.map V.str) (some (j : Int)) none = (ys.drop j).map V.str := by
  unfold cutV
  rw [HT.sIx_none, HT.sIx_nat, List.length_map, List.map_drop]
  rcases Nat.le_total j ys.length with c | c
  · rw [Nat.min_eq_left c, List.take_of_length_le (by simp)]
  · rw [Nat.min_eq_right c, Nat.sub_self, List.take_zero, List.drop_eq_nil_of_le (by simpa using c)]
theorem LnOK.set {ls : List Str} {i : Nat} {w : Str} (h : LnOK ls) (hw : 10 ∉ w.cps.toList ∧ w.length ≤ 400) : LnOK (ls.set i w) := ⟨fun l hl => by
  rcases List.mem_or_eq_of_mem_set hl with z | z
  · exact h.nl l z
  · rw [z]; exact hw.1, fun l hl => by
  rcases List.mem_or_eq_of_mem_set hl with z | z
  · exact h.len l z
  · rw [z]; exact hw.2⟩
def WBS : List Str := ["", "push x", "fun"]
theorem WBS_ok {w : Str} (h : w ∈ WBS) : 10 ∉ w.cps.toList ∧ w.length ≤ 400 := by
  unfold WBS at h
  simp only [List.mem_cons, List.not_mem_nil, or_false] at h
  rcases h with e | e | e <;> subst e <;> decide +kernel
theorem Pl.neS {n : Int} {H : Hp} {p q : Addr} {ws : List Str} (h : Pl n H p) (hq : H q = some (.lst (ws.map V.str))) : q ≠ p := by
  obtain ⟨a, b, c, _, _, _, hp⟩ := h
  refine ne_of hq hp fun z => ?_
  cases ws with
  | nil => injection z with z; cases z
  | cons w r => injection z with z; injection z with z _; cases z
theorem row_lns {n : Int} {H H' : Hp} {p : Addr} {xs : List (List (List Int))} {vs : List V} (h : Row (LnsAt H) xs vs) (P : Pl n H p) (B : But p H H') : Row (LnsAt H') xs vs := h.imp fun x v _ ⟨l, e, hl⟩ => ⟨l, e, B.rd (P.neS hl) hl⟩
theorem row_lnsS {H H' : Hp} {xs : List (List (List Int))} {vs : List V} (h : Row (LnsAt H) xs vs) (S : Same H H') : Row (LnsAt H') xs vs := h.imp fun x v _ ⟨l, e, hl⟩ => ⟨l, e, S _ _ hl⟩
theorem lines_fit {ls : List Str} (h : ∀ l ∈ ls, l.length ≤ 400) (hl : ls.length ≤ 200) : (ls.map (·.length)).sum + ls.length * ("\n" : Str).length ≤ 16777216 := by
  have nl1 : ("\n" : Str).length = 1 := by decide +kernel
  have a := sum_lines h
  have b := Nat.mul_le_mul_right 401 hl
  rw [nl1]
  omega
theorem lnT_fit {hs rs : List (List Int)} (h1 : ∀ h ∈ hs, HdR h) (h2 : ∀ x ∈ rs, RwR x) : ∀ l ∈ lnT hs rs, l.length ≤ 400 := fun l hl => by
  obtain ⟨ws, hw, rfl⟩ := List.mem_map.mp hl
  rcases List.mem_append.mp hw with z | z
  · obtain ⟨h, hm, rfl⟩ := List.mem_map.mp z
    exact (h1 h hm).l
  · obtain ⟨r, hm, rfl⟩ := List.mem_map.mp z
    exact (h2 r hm).l

def sp_NoText_init (Z : Adr) : Sp := Sp2 (q_NoText_init Z)
theorem cl_NoText_init {Z : Adr} {a0 a1 : V} {H : Hp} {Q : VK} {E : XK} (h : q_NoText_init Z a0 a1 H Q E) : sp_NoText_init Z [a0, a1] H Q E := ⟨a0, a1, rfl, h⟩
def sp_is_whole (Z : Adr) : Sp := Sp1 (q_is_whole Z)
theorem cl_is_whole {Z : Adr} {a0 : V} {H : Hp} {Q : VK} {E : XK} (h : q_is_whole Z a0 H Q E) : sp_is_whole Z [a0] H Q E := ⟨a0, rfl, h⟩
def sp_are_wholes (Z : Adr) : Sp := Sp2 (q_are_wholes Z)
theorem cl_are_wholes {Z : Adr} {a0 a1 : V} {H : Hp} {Q : VK} {E : XK} (h : q_are_wholes Z a0 a1 H Q E) : sp_are_wholes Z [a0, a1] H Q E := ⟨a0, a1, rfl, h⟩
def sp_fits_op (Z : Adr) : Sp := Sp4 (q_fits_op Z)
theorem cl_fits_op {Z : Adr} {a0 a1 a2 a3 : V} {H : Hp} {Q : VK} {E : XK} (h : q_fits_op Z a0 a1 a2 a3 H Q E) : sp_fits_op Z [a0, a1, a2, a3] H Q E := ⟨a0, a1, a2, a3, rfl, h⟩
def sp_fits_head (Z : Adr) : Sp := Sp3 (q_fits_head Z)
theorem cl_fits_head {Z : Adr} {a0 a1 a2 : V} {H : Hp} {Q : VK} {E : XK} (h : q_fits_head Z a0 a1 a2 H Q E) : sp_fits_head Z [a0, a1, a2] H Q E := ⟨a0, a1, a2, rfl, h⟩
def sp_make_code (Z : Adr) : Sp := Sp2 (q_make_code Z)
theorem cl_make_code {Z : Adr} {a0 a1 : V} {H : Hp} {Q : VK} {E : XK} (h : q_make_code Z a0 a1 H Q E) : sp_make_code Z [a0, a1] H Q E := ⟨a0, a1, rfl, h⟩
def sp_code_of (Z : Adr) : Sp := Sp2 (q_code_of Z)
theorem cl_code_of {Z : Adr} {a0 a1 : V} {H : Hp} {Q : VK} {E : XK} (h : q_code_of Z a0 a1 H Q E) : sp_code_of Z [a0, a1] H Q E := ⟨a0, a1, rfl, h⟩
def sp_word_of (Z : Adr) : Sp := Sp1 (q_word_of Z)
theorem cl_word_of {Z : Adr} {a0 : V} {H : Hp} {Q : VK} {E : XK} (h : q_word_of Z a0 H Q E) : sp_word_of Z [a0] H Q E := ⟨a0, rfl, h⟩
def sp_kind_of (Z : Adr) : Sp := Sp1 (q_kind_of Z)
theorem cl_kind_of {Z : Adr} {a0 : V} {H : Hp} {Q : VK} {E : XK} (h : q_kind_of Z a0 H Q E) : sp_kind_of Z [a0] H Q E := ⟨a0, rfl, h⟩
def sp_is_of (Z : Adr) : Sp := Sp3 (q_is_of Z)
theorem cl_is_of {Z : Adr} {a0 a1 a2 : V} {H : Hp} {Q : VK} {E : XK} (h : q_is_of Z a0 a1 a2 H Q E) : sp_is_of Z [a0, a1, a2] H Q E := ⟨a0, a1, a2, rfl, h⟩
def sp_is_number_of (Z : Adr) : Sp := Sp2 (q_is_number_of Z)
theorem cl_is_number_of {Z : Adr} {a0 a1 : V} {H : Hp} {Q : VK} {E : XK} (h : q_is_number_of Z a0 a1 H Q E) : sp_is_number_of Z [a0, a1] H Q E := ⟨a0, a1, rfl, h⟩
def sp_is_number_word (Z : Adr) : Sp := Sp1 (q_is_number_word Z)
theorem cl_is_number_word {Z : Adr} {a0 : V} {H : Hp} {Q : VK} {E : XK} (h : q_is_number_word Z a0 H Q E) : sp_is_number_word Z [a0] H Q E := ⟨a0, rfl, h⟩
def sp_row_in (Z : Adr) : Sp := Sp1 (q_row_in Z)
theorem cl_row_in {Z : Adr} {a0 : V} {H : Hp} {Q : VK} {E : XK} (h : q_row_in Z a0 H Q E) : sp_row_in Z [a0] H Q E := ⟨a0, rfl, h⟩
def sp_head_in (Z : Adr) : Sp := Sp1 (q_head_in Z)
theorem cl_head_in {Z : Adr} {a0 : V} {H : Hp} {Q : VK} {E : XK} (h : q_head_in Z a0 H Q E) : sp_head_in Z [a0] H Q E := ⟨a0, rfl, h⟩
def sp_read_code (Z : Adr) : Sp := Sp1 (q_read_code Z)
theorem cl_read_code {Z : Adr} {a0 : V} {H : Hp} {Q : VK} {E : XK} (h : q_read_code Z a0 H Q E) : sp_read_code Z [a0] H Q E := ⟨a0, rfl, h⟩
def sp_Lpen (Z : Adr) : Sp := Sp2 (q_Lpen Z)
theorem cl_Lpen {Z : Adr} {a0 a1 : V} {H : Hp} {Q : VK} {E : XK} (h : q_Lpen Z a0 a1 H Q E) : sp_Lpen Z [a0, a1] H Q E := ⟨a0, a1, rfl, h⟩
def sp_Ldraw (Z : Adr) : Sp := Sp2 (q_Ldraw Z)
theorem cl_Ldraw {Z : Adr} {a0 a1 : V} {H : Hp} {Q : VK} {E : XK} (h : q_Ldraw Z a0 a1 H Q E) : sp_Ldraw Z [a0, a1] H Q E := ⟨a0, a1, rfl, h⟩
def sp_Lnumber (Z : Adr) : Sp := Sp2 (q_Lnumber Z)
theorem cl_Lnumber {Z : Adr} {a0 a1 : V} {H : Hp} {Q : VK} {E : XK} (h : q_Lnumber Z a0 a1 H Q E) : sp_Lnumber Z [a0, a1] H Q E := ⟨a0, a1, rfl, h⟩
def sp_Lrow (Z : Adr) : Sp := Sp4 (q_Lrow Z)
theorem cl_Lrow {Z : Adr} {a0 a1 a2 a3 : V} {H : Hp} {Q : VK} {E : XK} (h : q_Lrow Z a0 a1 a2 a3 H Q E) : sp_Lrow Z [a0, a1, a2, a3] H Q E := ⟨a0, a1, a2, a3, rfl, h⟩
def sp_Lcode (Z : Adr) : Sp := Sp4 (q_Lcode Z)
theorem cl_Lcode {Z : Adr} {a0 a1 a2 a3 : V} {H : Hp} {Q : VK} {E : XK} (h : q_Lcode Z a0 a1 a2 a3 H Q E) : sp_Lcode Z [a0, a1, a2, a3] H Q E := ⟨a0, a1, a2, a3, rfl, h⟩
def sp_Lcaught (Z : Adr) : Sp := Sp1 (q_Lcaught Z)
theorem cl_Lcaught {Z : Adr} {a0 : V} {H : Hp} {Q : VK} {E : XK} (h : q_Lcaught Z a0 H Q E) : sp_Lcaught Z [a0] H Q E := ⟨a0, rfl, h⟩
def sp_Lbad_lines (Z : Adr) : Sp := Sp1 (q_Lbad_lines Z)
theorem cl_Lbad_lines {Z : Adr} {a0 : V} {H : Hp} {Q : VK} {E : XK} (h : q_Lbad_lines Z a0 H Q E) : sp_Lbad_lines Z [a0] H Q E := ⟨a0, rfl, h⟩
def sp_Lline_exchanged (Z : Adr) : Sp := Sp3 (q_Lline_exchanged Z)
theorem cl_Lline_exchanged {Z : Adr} {a0 a1 a2 : V} {H : Hp} {Q : VK} {E : XK} (h : q_Lline_exchanged Z a0 a1 a2 H Q E) : sp_Lline_exchanged Z [a0, a1, a2] H Q E := ⟨a0, a1, a2, rfl, h⟩
def sp_Lno_code (Z : Adr) : Sp := Sp3 (q_Lno_code Z)
theorem cl_Lno_code {Z : Adr} {a0 a1 a2 : V} {H : Hp} {Q : VK} {E : XK} (h : q_Lno_code Z a0 a1 a2 H Q E) : sp_Lno_code Z [a0, a1, a2] H Q E := ⟨a0, a1, a2, rfl, h⟩
def sp_law (Z : Adr) : Sp := Sp1 (q_law Z)
theorem cl_law {Z : Adr} {a0 : V} {H : Hp} {Q : VK} {E : XK} (h : q_law Z a0 H Q E) : sp_law Z [a0] H Q E := ⟨a0, rfl, h⟩
def t_NoText_init (Z : Adr) (W : WX) : TS := (tSeq (tDrop (tVeI Z.K (tCons (tVar 0) (tCons (tC (.str "a text that writes nothing")) tNil))))
    (tOst Z.K "at" (tVar 0) (tVar 1)))
def t_is_whole (Z : Adr) (W : WX) : TS := (tRet (tAndV (tCB (rIsi2 Z.K) (tCons (tVar 0) (tCons (tC (.ty "int")) tNil))) (tNotV (tCB (rIsi2 Z.K) (tCons (tVar 0) (tCons (tC (.ty "bool")) tNil))))))
def t_are_wholes (Z : Adr) (W : WX) : TS := (tSeq (tIfS (tOr (tNot (tB (tCB (rIsi2 Z.K) (tCons (tVar 0) (tCons (tTup (tCons (tC (.ty "list")) (tCons (tC (.ty "tuple")) tNil))) tNil))))) (tTest (tOp (rNeU Z.K) (tCB (rLen Z.K) (tCons (tVar 0) tNil)) (tVar 1)))) (tRet (tC (.bl false))) tNext)
    (tRet (tCB (rAll Z.K) (tCons (tLc (iUn Z.K (tVar 0)) (gName 3) tYes (tCallS (sp_is_whole Z) (WE fun _ _ _ _ => False) (tCons (tVar 3) tNil)) [2, 3]) tNil))))
def t_fits_op (Z : Adr) (W : WX) : TS := (tSeq (tIfS (tTest (tOp (rEqU Z.K) (tVar 0) (tC (.int 0)))) (tRet (tC (.bl true))) tNext)
    (tSeq (tIfS (tTest (tOp (rIn Z.K false) (tVar 0) (tTup (tCons (tC (.int 1)) (tCons (tC (.int 2)) tNil))))) (tRet (tChain (rI0 fun i j => .bl (decide (i ≤ j))) (rI0 fun i j => .bl (decide (i < j))) (tC (.int 0)) (tVar 1) (tC (.int 12)))) tNext)
    (tSeq (tIfS (tTest (tOp (rIn Z.K false) (tVar 0) (tTup (tCons (tC (.int 4)) (tCons (tC (.int 5)) tNil))))) (tRet (tChain (rI0 fun i j => .bl (decide (i ≤ j))) (rI0 fun i j => .bl (decide (i < j))) (tC (.int 0)) (tVar 1) (tVar 3))) tNext)
    (tSeq (tIfS (tTest (tOp (rEqU Z.K) (tVar 0) (tC (.int 6)))) (tRet (tChain (rI0 fun i j => .bl (decide (i ≤ j))) (rI0 fun i j => .bl (decide (i < j))) (tC (.int 0)) (tVar 1) (tVar 2))) tNext)
    (tSeq (tIfS (tTest (tOp (rIn Z.K false) (tVar 0) (tTup (tCons (tC (.int 3)) (tCons (tC (.int 7)) (tCons (tC (.int 8)) (tCons (tC (.int 9)) tNil))))))) (tRet (tOp (rEqU Z.K) (tVar 1) (tC (.int 0)))) tNext)
    (tSeq (tIfS (tTest (tOp (rEqU Z.K) (tVar 0) (tC (.int 10)))) (tRet (tChain (rI0 fun i j => .bl (decide (i ≤ j))) (rI0 fun i j => .bl (decide (i ≤ j))) (tC (.int 8)) (tVar 1) (tC (.int 19)))) tNext)
    (tRet (tAndV (tOp (rEqU Z.K) (tVar 0) (tC (.int 11))) (tChain (rI0 fun i j => .bl (decide (i ≤ j))) (rI0 fun i j => .bl (decide (i ≤ j))) (tC (.int 2)) (tVar 1) (tC (.int 12)))))))))))
def t_fits_head (Z : Adr) (W : WX) : TS := (tSeq (tAsg (tVar 0) (gUn Z.K 3 (gCons (gName 3) (gCons (gName 4) (gCons (gName 5) gNil)))))
    (tSeq (tIfS (tOr (tNot (tTest (tChain (rI0 fun i j => .bl (decide (i ≤ j))) (rI0 fun i j => .bl (decide (i < j))) (tC (.int 0)) (tVar 3) (tVar 2)))) (tNot (tTest (tChain (rI0 fun i j => .bl (decide (i ≤ j))) (rI0 fun i j => .bl (decide (i ≤ j))) (tC (.int 0)) (tVar 4) (tOp rMul (tC (.int 4)) (tCB rInt1 (tCons (tOp (rI0 fun i j => .bl (decide (j < i))) (tVar 1) (tC (.int 0))) tNil))))))) (tRet (tC (.bl false))) tNext)
    (tRet (tChain (rI0 fun i j => .bl (decide (i ≤ j))) (rI0 fun i j => .bl (decide (i ≤ j))) (tVar 4) (tVar 5) (tC (.int 12))))))
def t_make_code (Z : Adr) (W : WX) : TS := (tSeq (tIfS (tOr (tNot (tTest (tChain (rI0 fun i j => .bl (decide (i ≤ j))) (rI0 fun i j => .bl (decide (i ≤ j))) (tC (.int 1)) (tCB (rLen Z.K) (tCons (tVar 0) tNil)) (tC (.int 16))))) (tTest (tOp (rI0 fun i j => .bl (decide (i < j))) (tCB (rLen Z.K) (tCons (tVar 1) tNil)) (tC (.int 1))))) (tRet (tC (.bl false))) tNext)
    (tSeq (tFor (iRng1 (tCons (tCB (rLen Z.K) (tCons (tVar 0) tNil)) tNil)) (gName 2) (tIfS (tNot (tB (tCallS (sp_fits_head Z) (WE W) (tCons (tOp (rIx Z.K) (tVar 0) (tVar 2)) (tCons (tVar 2) (tCons (tCB (rLen Z.K) (tCons (tVar 1) tNil)) tNil)))))) (tRet (tC (.bl false))) tNext))
    (tSeq (tFor (iUn Z.K (tVar 1)) (gUn Z.K 2 (gCons (gName 3) (gCons (gName 4) gNil))) (tIfS (tNot (tB (tCallS (sp_fits_op Z) (WE W) (tCons (tVar 3) (tCons (tVar 4) (tCons (tCB (rLen Z.K) (tCons (tVar 0) tNil)) (tCons (tCB (rLen Z.K) (tCons (tVar 1) tNil)) tNil))))))) (tRet (tC (.bl false))) tNext))
    (tRet (tC (.bl true))))))
def t_code_of (Z : Adr) (W : WX) : TS := (tSeq (tIfS (tOr (tNot (tB (tCB (rIsi2 Z.K) (tCons (tVar 0) (tCons (tTup (tCons (tC (.ty "list")) (tCons (tC (.ty "tuple")) tNil))) tNil))))) (tNot (tB (tCB (rIsi2 Z.K) (tCons (tVar 1) (tCons (tTup (tCons (tC (.ty "list")) (tCons (tC (.ty "tuple")) tNil))) tNil)))))) (sRaiseN Z.c_NoCode W) tNext)
    (tSeq (tIfS (tOr (tNot (tB (tCB (rAll Z.K) (tCons (tLc (iUn Z.K (tVar 0)) (gName 2) tYes (tCallS (sp_are_wholes Z) (WE fun _ _ _ _ => False) (tCons (tVar 2) (tCons (tC (.int 3)) tNil))) [5, 2]) tNil)))) (tNot (tB (tCB (rAll Z.K) (tCons (tLc (iUn Z.K (tVar 1)) (gName 3) tYes (tCallS (sp_are_wholes Z) (WE fun _ _ _ _ => False) (tCons (tVar 3) (tCons (tC (.int 2)) tNil))) [5, 3]) tNil))))) (sRaiseN Z.c_NoCode W) tNext)
    (tSeq (tIfS (tNot (tB (tCallS (sp_make_code Z) (WE W) (tCons (tVar 0) (tCons (tVar 1) tNil))))) (sRaiseN Z.c_NoCode W) tNext)
    (tSeq (tAsg (tLst (tCons (tCB (rLen Z.K) (tCons (tVar 0) tNil)) tNil)) (gName 4))
    (tSeq (tFor (iUn Z.K (tVar 0)) (gName 2) (tDrop (tBM Z.K "list" rExtend (tVar 4) (tCons (tCB (rListOf Z.K) (tCons (tVar 2) tNil)) tNil))))
    (tSeq (tFor (iUn Z.K (tVar 1)) (gName 3) (tDrop (tBM Z.K "list" rExtend (tVar 4) (tCons (tCB (rListOf Z.K) (tCons (tVar 3) tNil)) tNil))))
    (tRet (tVar 4))))))))
def t_word_of (Z : Adr) (W : WX) : TS := (tRet (tOp (rIx Z.K) (tOp (rAddU Z.K) (tC (.ref Z.a_EARLY)) (tC (.ref Z.a_LATE))) (tOp (rI0 fun i j => .int (i - j)) (tVar 0) (tC (.int 2)))))
def t_kind_of (Z : Adr) (W : WX) : TS := (tSeq (tFor (iRng2 (tCons (tC (.int 2)) (tCons (tOp (rAddU Z.K) (tC (.int 19)) (tC (.int 1))) tNil))) (gName 1) (tIfS (tTest (tOp (rEqU Z.K) (tCallS (sp_word_of Z) (WE W) (tCons (tVar 1) tNil)) (tVar 0))) (tRet (tVar 1)) tNext))
    (tRet (tC .non)))
def t_is_of (Z : Adr) (W : WX) : TS := (tSeq (tIfS (tNot (tTest (tChain (rI0 fun i j => .bl (decide (i ≤ j))) (rI0 fun i j => .bl (decide (i ≤ j))) (tC (.int 1)) (tCB (rLen Z.K) (tCons (tVar 0) tNil)) (tVar 2)))) (tRet (tC (.bl false))) tNext)
    (tSeq (tFor (iStr (tVar 0)) (gName 3) (tIfS (tTest (tOp rNotInSg (tVar 3) (tVar 1))) (tRet (tC (.bl false))) tNext))
    (tRet (tC (.bl true)))))
def t_is_number_of (Z : Adr) (W : WX) : TS := (tSeq (tAsg (tVar 0) (gName 2))
    (C8.tCut (tIfS (tTest (tOp (rEqU Z.K) (tSl rSlS (tVar 0) tNoPart (tPart (tC (.int 1)))) (tC (.str "-")))) (tAsg (tSl rSlS (tVar 0) (tPart (tC (.int 1))) tNoPart) (gName 2)) tNext)
    (tSeq (tIfS (tNot (tB (tCallS (sp_is_of Z) (WE W) (tCons (tVar 2) (tCons (tC (.str "0123456789")) (tCons (tVar 1) tNil)))))) (tRet (tC (.bl false))) tNext)
    (tRet (tOrV (tOp (rNeU Z.K) (tOp (rIx Z.K) (tVar 2) (tC (.int 0))) (tC (.str "0"))) (tOp (rEqU Z.K) (tVar 0) (tC (.str "0"))))))))
def t_is_number_word (Z : Adr) (W : WX) : TS := (tRet (tCallS (sp_is_number_of Z) (WE W) (tCons (tVar 0) (tCons (tC (.int 60)) tNil))))
def t_row_in (Z : Adr) (W : WX) : TS := (tSeq (tAsg (tOp (rIx Z.K) (tVar 0) (tC (.int 0))) (gName 1))
    (tSeq (tAsg (tC (.int 60)) (gName 2))
    (C8.tCut (tIfS (tTest (tOp (rEqU Z.K) (tVar 1) (tC (.str "push")))) (tAsg (tC (.int 100)) (gName 2)) tNext)
    (tSeq (tIfS (tAnd (tTest (tOp (rEqU Z.K) (tCB (rLen Z.K) (tCons (tVar 0) tNil)) (tC (.int 2)))) (tAnd (tTest (tOp (rInK Z.K Z.w) (tVar 1) (tC (.ref Z.a_NUMBERED)))) (tB (tCallS (sp_is_number_of Z) (WE W) (tCons (tOp (rIx Z.K) (tVar 0) (tC (.int 1))) (tCons (tVar 2) tNil)))))) (tRet (tTup (tCons (tOp (rIxK Z.K Z.w) (tC (.ref Z.a_NUMBERED)) (tVar 1)) (tCons (tCB rIntS (tCons (tOp (rIx Z.K) (tVar 0) (tC (.int 1))) tNil)) tNil)))) tNext)
    (tSeq (tIfS (tAnd (tTest (tOp (rEqU Z.K) (tCB (rLen Z.K) (tCons (tVar 0) tNil)) (tC (.int 1)))) (tTest (tOp (rInK Z.K Z.w) (tVar 1) (tC (.ref Z.a_ALONE))))) (tRet (tTup (tCons (tOp (rIxK Z.K Z.w) (tC (.ref Z.a_ALONE)) (tVar 1)) (tCons (tC (.int 0)) tNil)))) tNext)
    (tSeq (tAsg (tCallS (sp_kind_of Z) (WE W) (tCons (tVar 1) tNil)) (gName 3))
    (tSeq (tIfS (tAnd (tTest (tOp (rEqU Z.K) (tCB (rLen Z.K) (tCons (tVar 0) tNil)) (tC (.int 1)))) (tAnd (tTest (tOp rNotU (tVar 3) (tC .non))) (tTest (tOp (rI0 fun i j => .bl (decide (j ≤ i))) (tVar 3) (tC (.int 8)))))) (tRet (tTup (tCons (tC (.int 10)) (tCons (tVar 3) tNil)))) tNext)
    (tRet (tC .non)))))))))
def t_head_in (Z : Adr) (W : WX) : TS := (tSeq (tIfS (tOr (tTest (tOp (rNeU Z.K) (tOp (rIx Z.K) (tVar 0) (tC (.int 0))) (tC (.str "fun")))) (tOr (tTest (tOp (rNeU Z.K) (tCB (rLen Z.K) (tCons (tVar 0) tNil)) (tC (.int 4)))) (tNot (tB (tCB (rAll Z.K) (tCons (tLc (iList Z.K (tSl (rSlU Z.K) (tVar 0) (tPart (tC (.int 1))) tNoPart)) (gName 2) tYes (tCallS (sp_is_number_word Z) (WE fun _ _ _ _ => False) (tCons (tVar 2) tNil)) [1, 2]) tNil)))))) (tRet (tC .non)) tNext)
    (tRet (tCB (rTupOf Z.K) (tCons (tLc (iList Z.K (tSl (rSlU Z.K) (tVar 0) (tPart (tC (.int 1))) tNoPart)) (gName 2) tYes (tCB rIntS (tCons (tVar 2) tNil)) [1, 2]) tNil))))
def t_read_code (Z : Adr) (W : WX) : TS := (tSeq (tIfS (tNot (tB (tCB (rIsi2 Z.K) (tCons (tVar 0) (tCons (tC (.ty "str")) tNil))))) (sRaiseO Z.c_NoText (sp_NoText_init Z) W (tCons (tC (.int 0)) tNil)) tNext)
    (tSeq (tAsg (tLst tNil) (gName 1))
    (tSeq (tAsg (tLst tNil) (gName 2))
    (tSeq (tFor (iEnumU Z.K (tCons (tBM Z.K "str" rSplit (tVar 0) (tCons (tC (.str "\n")) tNil)) tNil)) (gUn Z.K 2 (gCons (gName 3) (gCons (gName 4) gNil))) (tSeq (tAsg (tBM Z.K "str" rSplit (tVar 4) (tCons (tC (.str " ")) tNil)) (gName 5))
    (tSeq (tAsg (tCallS (sp_head_in Z) (WE W) (tCons (tVar 5) tNil)) (gName 6))
    (tSeq (tAsg (tCallS (sp_row_in Z) (WE W) (tCons (tVar 5) tNil)) (gName 7))
    (tIfS (tAnd (tTest (tOp rNotU (tVar 6) (tC .non))) (tTest (tOp (rEqU Z.K) (tVar 2) (tLst tNil)))) (tDrop (tBM Z.K "list" rAppend (tVar 1) (tCons (tVar 6) tNil))) (tIfS (tTest (tOp rNotU (tVar 7) (tC .non))) (tDrop (tBM Z.K "list" rAppend (tVar 2) (tCons (tVar 7) tNil))) (sRaiseO Z.c_NoText (sp_NoText_init Z) W (tCons (tVar 3) tNil))))))))
    (tRet (tCallS (sp_code_of Z) (WE W) (tCons (tVar 1) (tCons (tVar 2) tNil))))))))
def t_Lpen (Z : Adr) (W : WX) : TS := (tSeq (tAsg (tOp (rAddU Z.K) (tOp rMul (tC (.int 7919)) (tVar 1)) (tC (.int 5))) (gName 2))
    (C8.tCut (tIfS (tTest (tOp (rI0 fun i j => .bl (decide (i < j))) (tVar 1) (tCB (rLen Z.K) (tCons (tVar 0) tNil)))) (tAsg (tOp (rIx Z.K) (tVar 0) (tVar 1)) (gName 2)) (tIfS (tTest (tOp (rI0 fun i j => .bl (decide (j < i))) (tCB (rLen Z.K) (tCons (tVar 0) tNil)) (tC (.int 0)))) (tAsg (tOp (rAddU Z.K) (tOp rMod (tOp (rIx Z.K) (tVar 0) (tOp rMod (tVar 1) (tCB (rLen Z.K) (tCons (tVar 0) tNil)))) (tC (.int 2147483629))) (tOp rMul (tC (.int 48271)) (tVar 1))) (gName 2)) tNext))
    (tSeq (tIfS (tTest (tOp (rI0 fun i j => .bl (decide (j ≤ i))) (tVar 2) (tC (.int 1000000000000000000)))) (tRet (tLst (tCons (tOp (rI0 fun i j => .int (i - j)) (tVar 2) (tC (.int 1000000000000000000))) (tCons (tOp rMod (tVar 2) (tC (.int 2147483587))) (tCons (tC (.int 0)) tNil))))) tNext)
    (tRet (tLst (tCons (tC (.int 0)) (tCons (tOp rMod (tVar 2) (tC (.int 2147483587))) (tCons (tC (.int 0)) tNil))))))))
def t_Ldraw (Z : Adr) (W : WX) : TS := (tSeq (tAsg (tOp (rAddU Z.K) (tOp (rIx Z.K) (tVar 0) (tC (.int 2))) (tC (.int 1))) (gSub (tVar 0) (tC (.int 2)) rSetL))
    (tSeq (tIfS (tTest (tOp (rI0 fun i j => .bl (decide (j < i))) (tOp (rIx Z.K) (tVar 0) (tC (.int 0))) (tC (.int 0)))) (tSeq (tAsg (tOp rMod (tOp (rIx Z.K) (tVar 0) (tC (.int 0))) (tVar 1)) (gName 2))
    (tSeq (tAsg (tOp rFdv (tOp (rIx Z.K) (tVar 0) (tC (.int 0))) (tVar 1)) (gSub (tVar 0) (tC (.int 0)) rSetL))
    (tRet (tVar 2)))) tNext)
    (tSeq (tAsg (tOp rMod (tOp (rAddU Z.K) (tOp (rAddU Z.K) (tOp (rIx Z.K) (tVar 0) (tC (.int 1))) (tOp rMul (tC (.int 48271)) (tOp (rIx Z.K) (tVar 0) (tC (.int 2))))) (tC (.int 11))) (tC (.int 2147483629))) (gName 3))
    (tSeq (tAsg (tOp (rAddU Z.K) (tOp rMod (tOp rMul (tVar 3) (tVar 3)) (tC (.int 2147483587))) (tOp rMul (tC (.int 7919)) (tOp (rIx Z.K) (tVar 0) (tC (.int 2))))) (gName 3))
    (tSeq (tAsg (tOp rMod (tOp rMul (tVar 3) (tVar 3)) (tC (.int 2147483629))) (gName 3))
    (tRet (tOp rMod (tOp rFdv (tVar 3) (tC (.int 7))) (tVar 1))))))))
def t_Lnumber (Z : Adr) (W : WX) : TS := (tSeq (tAsg (tCallS (sp_Ldraw Z) (WE W) (tCons (tVar 0) (tCons (tC (.int 6)) tNil))) (gName 2))
    (tSeq (tIfS (tTest (tOp (rI0 fun i j => .bl (decide (i < j))) (tVar 2) (tC (.int 4)))) (tRet (tOp (rI0 fun i j => .int (i - j)) (tCallS (sp_Ldraw Z) (WE W) (tCons (tVar 0) (tCons (tC (.int 12)) tNil))) (tC (.int 2)))) tNext)
    (tSeq (tIfS (tTest (tOp (rEqU Z.K) (tVar 2) (tC (.int 4)))) (tRet (tOp (rI0 fun i j => .int (i - j)) (tCallS (sp_Ldraw Z) (WE W) (tCons (tVar 0) (tCons (tC (.int 2001)) tNil))) (tC (.int 1000)))) tNext)
    (tSeq (tAsg (tOp (rIx Z.K) (tLst (tCons (tC (.int 1000000000000000000000000000000000000000000000000000000000000)) (tCons (tOp rMul (tC (.int 100000000000000000000000000000000000000000000000000)) (tC (.int 100000000000000000000000000000000000000000000000000))) (tCons (tC (.int 1000000000000000000000000000000000000000000000000000000000000)) (tCons (tC (.int 10000000000000000000000000000000000000000000000000000000000000)) tNil))))) (tCallS (sp_Ldraw Z) (WE W) (tCons (tVar 0) (tCons (tVar 1) tNil)))) (gName 3))
    (tRet (tOp rMul (tOp (rI0 fun i j => .int (i - j)) (tOp (rI0 fun i j => .int (i - j)) (tVar 3) (tC (.int 1))) (tCallS (sp_Ldraw Z) (WE W) (tCons (tVar 0) (tCons (tC (.int 1000000)) tNil)))) (tOp (rI0 fun i j => .int (i - j)) (tC (.int 1)) (tOp rMul (tC (.int 2)) (tCallS (sp_Ldraw Z) (WE W) (tCons (tVar 0) (tCons (tC (.int 2)) tNil)))))))))))
def t_Lrow (Z : Adr) (W : WX) : TS := (tSeq (tAsg (tCallS (sp_Ldraw Z) (WE W) (tCons (tVar 0) (tCons (tC (.int 12)) tNil))) (gName 4))
    (tSeq (tAsg (tOp (rIx Z.K) (tLst (tCons (tC (.str "push")) (tCons (tC (.str "get")) (tCons (tC (.str "set")) (tCons (tC (.str "drop")) (tCons (tC (.str "jump")) (tCons (tC (.str "unless")) (tCons (tC (.str "call")) (tCons (tC (.str "back")) (tCons (tC (.str "fail")) (tCons (tC (.str "breath")) (tCons (tC (.str "")) (tCons (tC (.str "pick")) tNil))))))))))))) (tVar 4)) (gName 5))
    (tSeq (tIfS (tTest (tOp (rIn Z.K false) (tVar 4) (tTup (tCons (tC (.int 3)) (tCons (tC (.int 7)) (tCons (tC (.int 8)) (tCons (tC (.int 9)) tNil))))))) (tRet (tTup (tCons (tVar 4) (tCons (tC (.int 0)) (tCons (tVar 5) tNil))))) tNext)
    (tSeq (tIfS (tTest (tOp (rEqU Z.K) (tVar 4) (tC (.int 10)))) (tSeq (tAsg (tOp (rAddU Z.K) (tC (.int 8)) (tCallS (sp_Ldraw Z) (WE W) (tCons (tVar 0) (tCons (tC (.int 12)) tNil)))) (gName 6))
    (tSeq (tAsg (tLst (tCons (tC (.str "add")) (tCons (tC (.str "sub")) (tCons (tC (.str "mul")) (tCons (tC (.str "quo")) (tCons (tC (.str "rest")) (tCons (tC (.str "less")) (tCons (tC (.str "same")) (tCons (tC (.str "push")) (tCons (tC (.str "at")) (tCons (tC (.str "put")) (tCons (tC (.str "size")) (tCons (tC (.str "new")) tNil))))))))))))) (gName 7))
    (tRet (tTup (tCons (tVar 4) (tCons (tVar 6) (tCons (tOp (rIx Z.K) (tVar 7) (tOp (rI0 fun i j => .int (i - j)) (tVar 6) (tC (.int 8)))) tNil))))))) tNext)
    (tSeq (tAsg (tCallS (sp_Lnumber Z) (WE W) (tCons (tVar 0) (tCons (tVar 3) tNil))) (gName 8))
    (C8.tCut (tIfS (tTest (tOp (rIn Z.K false) (tVar 4) (tTup (tCons (tC (.int 1)) (tCons (tC (.int 2)) tNil))))) (tAsg (tCallS (sp_Ldraw Z) (WE W) (tCons (tVar 0) (tCons (tC (.int 12)) tNil))) (gName 8)) tNext)
    (C8.tCut (tIfS (tTest (tOp (rIn Z.K false) (tVar 4) (tTup (tCons (tC (.int 4)) (tCons (tC (.int 5)) tNil))))) (tAsg (tCallS (sp_Ldraw Z) (WE W) (tCons (tVar 0) (tCons (tVar 2) tNil))) (gName 8)) tNext)
    (C8.tCut (tIfS (tTest (tOp (rEqU Z.K) (tVar 4) (tC (.int 6)))) (tAsg (tCallS (sp_Ldraw Z) (WE W) (tCons (tVar 0) (tCons (tVar 1) tNil))) (gName 8)) tNext)
    (C8.tCut (tIfS (tTest (tOp (rEqU Z.K) (tVar 4) (tC (.int 11)))) (tAsg (tOp (rAddU Z.K) (tC (.int 2)) (tCallS (sp_Ldraw Z) (WE W) (tCons (tVar 0) (tCons (tC (.int 11)) tNil)))) (gName 8)) tNext)
    (tRet (tTup (tCons (tVar 4) (tCons (tVar 8) (tCons (tOp (rAddU Z.K) (tOp (rAddU Z.K) (tVar 5) (tC (.str " "))) (tCB rStrI (tCons (tVar 8) tNil))) tNil))))))))))))))
def t_Lcode (Z : Adr) (W : WX) : TS := (tSeq (tAsg (tOp (rAddU Z.K) (tC (.int 1)) (tCallS (sp_Ldraw Z) (WE W) (tCons (tVar 0) (tCons (tVar 1) tNil)))) (gName 4))
    (tSeq (tAsg (tOp (rAddU Z.K) (tC (.int 1)) (tCallS (sp_Ldraw Z) (WE W) (tCons (tVar 0) (tCons (tVar 2) tNil)))) (gName 5))
    (tSeq (tAsg (tLst (tCons (tVar 4) tNil)) (gName 6))
    (tSeq (tAsg (tLst tNil) (gName 7))
    (tSeq (tFor (iRng1 (tCons (tVar 4) tNil)) (gName 8) (tSeq (tAsg (tOp rMul (tCallS (sp_Ldraw Z) (WE W) (tCons (tVar 0) (tCons (tC (.int 5)) tNil))) (tCB rInt1 (tCons (tOp (rI0 fun i j => .bl (decide (j < i))) (tVar 8) (tC (.int 0))) tNil))) (gName 9))
    (tSeq (tAsg (tLst (tCons (tCallS (sp_Ldraw Z) (WE W) (tCons (tVar 0) (tCons (tVar 5) tNil))) (tCons (tVar 9) (tCons (tOp (rAddU Z.K) (tVar 9) (tCallS (sp_Ldraw Z) (WE W) (tCons (tVar 0) (tCons (tOp (rI0 fun i j => .int (i - j)) (tC (.int 13)) (tVar 9)) tNil)))) tNil)))) (gName 10))
    (tSeq (tDrop (tBM Z.K "list" rExtend (tVar 6) (tCons (tVar 10) tNil)))
    (tDrop (tBM Z.K "list" rAppend (tVar 7) (tCons (tOp (rAddU Z.K) (tC (.str "fun ")) (tBM Z.K "str" (rJoin Z.K) (tC (.str " ")) (tCons (tLc (iList Z.K (tVar 10)) (gName 11) tYes (tCB rStrI (tCons (tVar 11) tNil)) [14, 11]) tNil))) tNil)))))))
    (tSeq (tFor (iRng1 (tCons (tVar 5) tNil)) (gName 8) (tSeq (tAsg (tCallS (sp_Lrow Z) (WE W) (tCons (tVar 0) (tCons (tVar 4) (tCons (tVar 5) (tCons (tVar 3) tNil))))) (gUn Z.K 3 (gCons (gName 12) (gCons (gName 11) (gCons (gName 13) gNil)))))
    (tSeq (tDrop (tBM Z.K "list" rExtend (tVar 6) (tCons (tLst (tCons (tVar 12) (tCons (tVar 11) tNil))) tNil)))
    (tDrop (tBM Z.K "list" rAppend (tVar 7) (tCons (tVar 13) tNil))))))
    (tRet (tTup (tCons (tVar 6) (tCons (tVar 7) tNil))))))))))
def t_Lcaught (Z : Adr) (W : WX) : TS := (tSeq (tAsg (tC .non) (gName 1))
    (tSeq (sTryKeep Z.K (.ref Z.c_ChainError) 2 (fun W => (tDrop (tCallS (sp_read_code Z) (WE W) (tCons (tVar 0) tNil)))) (tAsg (tVar 2) (gName 1)) W)
    (tSeq (tIfS (tOr (tNot (tB (tCB (rIsi3 Z.K) (tCons (tVar 1) (tCons (tC (.ty "ValueError")) tNil))))) (tB (tCB (rIsi3 Z.K) (tCons (tVar 1) (tCons (tTup (tCons (tC (.ref Z.c_NoName)) (tCons (tC (.ref Z.c_NoRow)) (tCons (tC (.ref Z.c_NoSheet)) tNil)))) tNil))))) (tRet (tC (.str "other"))) tNext)
    (tSeq (tIfS (tAnd (tB (tCB (rIsi3 Z.K) (tCons (tVar 1) (tCons (tC (.ref Z.c_NoText)) tNil)))) (tNot (tB (tCB (rIsi3 Z.K) (tCons (tVar 1) (tCons (tC (.ref Z.c_NoCode)) tNil)))))) (tRet (tOp (rIx Z.K) (tLst (tCons (tC (.str "other")) (tCons (tKf Z.K (tVar 1) "at") tNil))) (tCB rInt1 (tCons (tAndV (tCB (rIsi2 Z.K) (tCons (tKf Z.K (tVar 1) "at") (tCons (tC (.ty "int")) tNil))) (tNotV (tCB (rIsi2 Z.K) (tCons (tKf Z.K (tVar 1) "at") (tCons (tC (.ty "bool")) tNil))))) tNil)))) tNext)
    (tRet (tOp (rIx Z.K) (tLst (tCons (tC (.str "other")) (tCons (tC (.str "code")) tNil))) (tCB rInt1 (tCons (tAndV (tCB (rIsi3 Z.K) (tCons (tVar 1) (tCons (tC (.ref Z.c_NoCode)) tNil))) (tNotV (tCB (rIsi3 Z.K) (tCons (tVar 1) (tCons (tC (.ref Z.c_NoText)) tNil))))) tNil))))))))
def t_Lbad_lines (Z : Adr) (W : WX) : TS := (tSeq (tAsg (tLst (tCons (tC (.str "")) (tCons (tC (.str " ")) (tCons (tC (.str "Push 1")) (tCons (tC (.str "push 1 1")) (tCons (tC (.str "push 01")) (tCons (tC (.str "push -0")) (tCons (tC (.str "push +1")) (tCons (tC (.str "push 1.0")) (tCons (tC (.str "push  1")) (tCons (tC (.str " push 1")) tNil))))))))))) (gName 1))
    (tSeq (tAsg (tOp (rAddU Z.K) (tVar 1) (tLst (tCons (tC (.str "push 1 ")) (tCons (tOp (rAddU Z.K) (tC (.str "push ")) (tOp rRepS (tC (.str "9")) (tC (.int 101)))) (tCons (tOp (rAddU Z.K) (tC (.str "jump ")) (tOp rRepS (tC (.str "9")) (tC (.int 61)))) (tCons (tC (.str "push x")) (tCons (tC (.str "push 1_0")) (tCons (tC (.str "get")) (tCons (tC (.str "set x")) (tCons (tC (.str "drop 0")) (tCons (tC (.str "drop ")) (tCons (tC (.str "back 0")) tNil)))))))))))) (gName 1))
    (tSeq (tAsg (tOp (rAddU Z.K) (tVar 1) (tLst (tCons (tC (.str "fail 1")) (tCons (tC (.str "breath 1")) (tCons (tC (.str "jump")) (tCons (tC (.str "unless")) (tCons (tC (.str "call")) (tCons (tC (.str "call main")) (tCons (tC (.str "pick")) (tCons (tC (.str "pick 2 3")) (tCons (tC (.str "add 1")) (tCons (tC (.str "adds")) (tCons (tC (.str "do 8")) tNil))))))))))))) (gName 1))
    (tSeq (tAsg (tOp (rAddU Z.K) (tVar 1) (tLst (tCons (tC (.str "do")) (tCons (tC (.str "all")) (tCons (tC (.str "all 2")) (tCons (tC (.str "loop")) (tCons (tC (.str "fun")) (tCons (tC (.str "fun 0 0")) (tCons (tC (.str "fun 0 0 0 0")) (tCons (tC (.str "fun 0 0 x")) (tCons (tC (.str "fun 0 00 0")) (tCons (tC (.str "fun  0 0 0")) tNil)))))))))))) (gName 1))
    (tSeq (tAsg (tOp (rAddU Z.K) (tVar 1) (tLst (tCons (tC (.str "fun 0 0 0 ")) (tCons (tC (.str "Fun 0 0 0")) (tCons (tC (.str "with")) (tCons (tC (.str "is")) (tCons (tC (.str "7")) (tCons (tC (.str "number 1")) (tCons (tC (.str "new 0")) (tCons (tC (.str "size 1")) (tCons (tC (.str "jump -")) (tCons (tC (.str "-")) (tCons (tC (.str "push --1")) tNil))))))))))))) (gName 1))
    (tRet (tOp (rAddU Z.K) (tVar 1) (tOp rRep (tLst (tCons (tC (.str "fun 0 0 0")) tNil)) (tOp rMul (tC (.int 4)) (tCB rInt1 (tCons (tNotV (tVar 0)) tNil)))))))))))
def t_Lline_exchanged (Z : Adr) (W : WX) : TS := (tSeq (tAsg (tCallS (sp_Ldraw Z) (WE W) (tCons (tVar 0) (tCons (tCB (rLen Z.K) (tCons (tVar 1) tNil)) tNil))) (gName 3))
    (tSeq (tAsg (tCallS (sp_Lbad_lines Z) (WE W) (tCons (tOp (rI0 fun i j => .bl (decide (i ≤ j))) (tVar 3) (tVar 2)) tNil)) (gName 4))
    (tSeq (tAsg (tOp (rAddU Z.K) (tOp (rAddU Z.K) (tSl (rSlU Z.K) (tVar 1) tNoPart (tPart (tVar 3))) (tLst (tCons (tOp (rIx Z.K) (tVar 4) (tCallS (sp_Ldraw Z) (WE W) (tCons (tVar 0) (tCons (tCB (rLen Z.K) (tCons (tVar 4) tNil)) tNil)))) tNil))) (tSl (rSlU Z.K) (tVar 1) (tPart (tOp (rAddU Z.K) (tVar 3) (tC (.int 1)))) tNoPart)) (gName 5))
    (tSeq (tAsg (tOp (rAddU Z.K) (tOp (rAddU Z.K) (tVar 3) (tC (.int 1))) (tCallS (sp_Ldraw Z) (WE W) (tCons (tVar 0) (tCons (tCB (rLen Z.K) (tCons (tVar 1) tNil)) tNil)))) (gName 6))
    (C8.tCut (tIfS (tTest (tOp (rI0 fun i j => .bl (decide (i < j))) (tVar 6) (tCB (rLen Z.K) (tCons (tVar 5) tNil)))) (tAsg (tOp (rIx Z.K) (tLst (tCons (tC (.str "")) (tCons (tC (.str "push x")) (tCons (tC (.str "fun")) tNil)))) (tCallS (sp_Ldraw Z) (WE W) (tCons (tVar 0) (tCons (tC (.int 3)) tNil)))) (gSub (tVar 5) (tVar 6) rSetL)) tNext)
    (tRet (tTup (tCons (tBM Z.K "str" (rJoin Z.K) (tC (.str "\n")) (tCons (tVar 5) tNil)) (tCons (tVar 3) tNil)))))))))
def t_Lno_code (Z : Adr) (W : WX) : TS := (tSeq (tAsg (tOp (rI0 fun i j => .int (i - j)) (tCB (rLen Z.K) (tCons (tVar 1) tNil)) (tVar 2)) (gName 3))
    (tSeq (tAsg (tCB rStrI (tCons (tOp (rAddU Z.K) (tVar 3) (tCallS (sp_Ldraw Z) (WE W) (tCons (tVar 0) (tCons (tC (.int 9)) tNil)))) tNil)) (gName 4))
    (tSeq (tAsg (tLst (tCons (tLst (tCons (tC (.str "fun 0 1 1")) tNil)) (tCons (tLst (tCons (tOp (rAddU Z.K) (tOp (rAddU Z.K) (tC (.str "fun ")) (tVar 4)) (tC (.str " 0 0"))) tNil)) (tCons (tLst (tCons (tC (.str "fun -1 0 0")) tNil)) (tCons (tLst (tCons (tC (.str "fun 0 0 13")) tNil)) (tCons (tLst (tCons (tC (.str "fun 0 0 -1")) tNil)) (tCons (tOp rRep (tLst (tCons (tC (.str "fun 0 0 0")) tNil)) (tC (.int 17))) tNil))))))) (gName 5))
    (tSeq (tAsg (tOp (rAddU Z.K) (tVar 5) (tLst (tCons (tLst (tCons (tC (.str "fun 0 0 0")) (tCons (tC (.str "fun 0 5 5")) tNil))) (tCons (tLst (tCons (tC (.str "fun 0 0 0")) (tCons (tC (.str "fun 0 2 1")) tNil))) (tCons (tLst (tCons (tC (.str "fun 0 0 0")) (tCons (tC (.str "fun 0 -1 0")) tNil))) (tCons (tLst tNil) tNil)))))) (gName 5))
    (tSeq (tAsg (tLst (tCons (tOp (rAddU Z.K) (tC (.str "jump ")) (tVar 4)) (tCons (tC (.str "unless -1")) (tCons (tOp (rAddU Z.K) (tC (.str "call ")) (tCB rStrI (tCons (tOp (rAddU Z.K) (tVar 2) (tCallS (sp_Ldraw Z) (WE W) (tCons (tVar 0) (tCons (tC (.int 5)) tNil)))) tNil))) (tCons (tC (.str "call -1")) (tCons (tC (.str "get 12")) (tCons (tC (.str "set 12")) tNil))))))) (gName 6))
    (tSeq (tAsg (tOp (rAddU Z.K) (tVar 6) (tLst (tCons (tC (.str "get -1")) (tCons (tC (.str "pick 1")) (tCons (tC (.str "pick 13")) (tCons (tC (.str "pick 0")) (tCons (tOp (rAddU Z.K) (tC (.str "unless ")) (tVar 4)) (tCons (tC (.str "jump -7")) tNil)))))))) (gName 6))
    (tSeq (tAsg (tCallS (sp_Ldraw Z) (WE W) (tCons (tVar 0) (tCons (tC (.int 3)) tNil))) (gName 7))
    (tSeq (tIfS (tTest (tOp (rEqU Z.K) (tVar 7) (tC (.int 0)))) (tRet (tBM Z.K "str" (rJoin Z.K) (tC (.str "\n")) (tCons (tOp (rAddU Z.K) (tOp (rIx Z.K) (tVar 5) (tCallS (sp_Ldraw Z) (WE W) (tCons (tVar 0) (tCons (tC (.int 10)) tNil)))) (tSl (rSlU Z.K) (tVar 1) (tPart (tVar 2)) tNoPart)) tNil))) tNext)
    (tSeq (tIfS (tTest (tOp (rEqU Z.K) (tVar 7) (tC (.int 1)))) (tRet (tBM Z.K "str" (rJoin Z.K) (tC (.str "\n")) (tCons (tSl (rSlU Z.K) (tVar 1) tNoPart (tPart (tVar 2))) tNil))) tNext)
    (tSeq (tAsg (tOp (rAddU Z.K) (tVar 2) (tCallS (sp_Ldraw Z) (WE W) (tCons (tVar 0) (tCons (tVar 3) tNil)))) (gName 8))
    (tRet (tBM Z.K "str" (rJoin Z.K) (tC (.str "\n")) (tCons (tOp (rAddU Z.K) (tOp (rAddU Z.K) (tSl (rSlU Z.K) (tVar 1) tNoPart (tPart (tVar 8))) (tLst (tCons (tOp (rIx Z.K) (tVar 6) (tCallS (sp_Ldraw Z) (WE W) (tCons (tVar 0) (tCons (tC (.int 12)) tNil)))) tNil))) (tSl (rSlU Z.K) (tVar 1) (tPart (tOp (rAddU Z.K) (tVar 8) (tC (.int 1)))) tNoPart)) tNil)))))))))))))
def t_law (Z : Adr) (W : WX) : TS := (tSeq (tFor (iRng1 (tCons (tC (.int 2)) tNil)) (gName 1) (tSeq (tAsg (tCallS (sp_Lpen Z) (WE W) (tCons (tVar 0) (tCons (tVar 1) tNil))) (gName 2))
    (tSeq (tAsg (tCallS (sp_Lcode Z) (WE W) (tCons (tVar 2) (tCons (tC (.int 4)) (tCons (tC (.int 12)) (tCons (tC (.int 4)) tNil))))) (gUn Z.K 2 (gCons (gName 3) (gCons (gName 4) gNil))))
    (tSeq (tFor (iRng1 (tCons (tC (.int 5)) tNil)) (gName 5) (tSeq (tAsg (tCallS (sp_Lline_exchanged Z) (WE W) (tCons (tVar 2) (tCons (tVar 4) (tCons (tOp (rIx Z.K) (tVar 3) (tC (.int 0))) tNil)))) (gUn Z.K 2 (gCons (gName 6) (gCons (gName 7) gNil))))
    (tSeq (tIfS (tTest (tOp (rNeU Z.K) (tCallS (sp_Lcaught Z) (WE W) (tCons (tVar 6) tNil)) (tVar 7))) (tRet (tC (.bl false))) tNext)
    (tIfS (tTest (tOp (rNeU Z.K) (tCallS (sp_Lcaught Z) (WE W) (tCons (tCallS (sp_Lno_code Z) (WE W) (tCons (tVar 2) (tCons (tVar 4) (tCons (tOp (rIx Z.K) (tVar 3) (tC (.int 0))) tNil)))) tNil)) (tC (.str "code")))) (tRet (tC (.bl false))) tNext))))
    (tIfS (tOr (tTest (tOp (rNeU Z.K) (tCallS (sp_Lcaught Z) (WE W) (tCons (tOp (rAddU Z.K) (tBM Z.K "str" (rJoin Z.K) (tC (.str "\n")) (tCons (tVar 4) tNil)) (tC (.str "\n"))) tNil)) (tCB (rLen Z.K) (tCons (tVar 4) tNil)))) (tTest (tOp (rNeU Z.K) (tCallS (sp_read_code Z) (WE W) (tCons (tBM Z.K "str" (rJoin Z.K) (tC (.str "\n")) (tCons (tVar 4) tNil)) tNil)) (tVar 3)))) (tRet (tC (.bl false))) tNext)))))
    (tSeq (tFor (iList Z.K (tLst (tCons (tC .non) (tCons (tC (.int 7)) (tCons (tC (.bl true)) (tCons (tLst tNil) (tCons (tLst (tCons (tC (.str "push 1")) tNil)) (tCons (tTup (tCons (tC (.str "fun 0 0 0")) tNil)) (tCons tDNewK (tCons (tC (.str "")) tNil)))))))))) (gName 8) (tIfS (tTest (tOp (rNeU Z.K) (tCallS (sp_Lcaught Z) (WE W) (tCons (tVar 8) tNil)) (tC (.int 0)))) (tRet (tC (.bl false))) tNext))
    (tRet (tC (.bl true)))))
end My
local macro_rules | `(tactic| walk_at "own") => `(tactic| fail)
/-! ### the steps, tried in turn -/
local macro_rules | `(tactic| walk_at "hp") => `(tactic| first
  | with_reducible assumption
  | with_reducible exact L2.upd_same
  | ((with_reducible refine' Z.up_new ?zn ?zq); (case zn => with_reducible assumption); case zq => walk_at "hp")
  | ((with_reducible refine' Z.up_far ?zn ?zq); (case zn => walk_at "ne"); case zq => walk_at "hp")
  | ((with_reducible refine' Z.sm_rd ?zn ?zq); (case zn => with_reducible assumption); case zq => walk_at "hp")
  | ((with_reducible refine' Z.But.rd ?zn ?zm ?zq); (case zn => with_reducible assumption); (case zm => walk_at "ne"); case zq => walk_at "hp"))
local macro_rules | `(tactic| walk_at "ne") => `(tactic| first
  | with_reducible assumption
  | ((with_reducible refine' Ne.symm ?_); with_reducible assumption)
  | ((with_reducible refine' L2.ne_of_none ?zn ?zm); (case zn => with_reducible assumption); case zm => with_reducible assumption)
  | ((with_reducible refine' Ne.symm (L2.ne_of_none ?zn ?zm)); (case zn => with_reducible assumption); case zm => with_reducible assumption))
local macro_rules | `(tactic| walk_at "sq") => `(tactic| first
  | with_reducible assumption
  | ((with_reducible refine' L2.SqL.of ?zq); case zq => walk_at "hp")
  | ((with_reducible refine' L2.SqT.of ?zq); case zq => walk_at "hp")
  | ((with_reducible refine' Z.Same.seq ?zn ?zq); (case zn => with_reducible assumption); case zq => walk_at "sq")
  | ((with_reducible refine' Z.same_sqT ?zn ?zq); (case zn => with_reducible assumption); case zq => walk_at "sq")
  | ((with_reducible refine' Z.But.sqL ?zn ?zm ?zq); (case zn => with_reducible assumption); (case zm => walk_at "ne"); case zq => walk_at "sq")
  | ((with_reducible refine' Z.But.sqT ?zn ?zm ?zq); (case zn => with_reducible assumption); (case zm => walk_at "ne"); case zq => walk_at "sq"))
local macro_rules | `(tactic| walk_at "fit") => `(tactic| first
  | (refine Nat.le_of_ble_eq_true ?_; rfl) | omega)
local macro_rules | `(tactic| walk_at "s") => `(tactic| first
  | with_reducible refine Z.s_seq ?_
  | with_reducible refine Z.s_set ?_
  | ((with_reducible refine' Z.s_var ?zh ?_); case zh => exact rfl)
  | with_reducible refine Z.s_c ?_
  | with_reducible refine Z.s_op ?_
  | with_reducible refine Z.s_cons ?_
  | with_reducible refine Z.s_nil ?_
  | with_reducible refine Z.s_cb ?_
  | with_reducible refine Z.s_callS ?_
  | with_reducible refine Z.s_rI0 ?_
  | with_reducible refine Z.s_add_i ?_
  | with_reducible refine Z.s_test ?_
  | with_reducible refine Z.s_zB ?_
  | with_reducible refine Z.s_if ?_
  | with_reducible refine Z.s_ret ?_
  | with_reducible refine Z.s_next ?_
  | with_reducible refine Z.s_drop ?_
  | with_reducible refine Z.s_eq_i ?_
  | with_reducible refine Z.s_ne_i ?_
  | with_reducible refine Z.s_eq_s ?_
  | with_reducible refine Z.s_ne_s ?_
  | with_reducible refine Z.s_and ?_
  | with_reducible refine Z.s_or ?_
  | with_reducible refine Z.s_not ?_
  | with_reducible refine Z.s_chain ?_
  | with_reducible refine Z.s_B ?_
  | with_reducible refine Z.s_tup ?_
  | with_reducible refine Z.s_lst ?_
  | ((with_reducible refine' Z.s_ztup ?zh ?_); case zh => exact rfl)
  | ((with_reducible refine' Z.s_zlst ?zh ?_); case zh => exact rfl)
  | with_reducible refine Z.s_un ?_
  | with_reducible refine Z.s_rU ?_
  | with_reducible refine Z.s_p18 ?_
  | with_reducible refine Z.s_min2 ?_
  | with_reducible refine Z.s_max2 ?_
  | with_reducible refine Z.s_abs ?_
  | with_reducible refine Z.s_int1 ?_
  | with_reducible refine Z.s_int1b ?_
  | with_reducible refine Z.s_bm ?_
  | with_reducible refine Z.s_bm0 ?_
  | with_reducible refine Z.s_fld ?_
  | with_reducible refine Z.s_dget ?_
  | with_reducible refine Z.s_din ?_
  | with_reducible refine Z.s_dnotin ?_
  | with_reducible refine Z.s_dnew ?_
  | with_reducible refine Z.s_dput ?_
  | with_reducible refine Z.s_disp ?_
  | with_reducible refine Z.s_asg ?_
  | with_reducible refine Z.s_gname ?_
  | with_reducible refine Z.s_gsub ?_
  | with_reducible refine Z.s_gcons ?_
  | with_reducible refine Z.s_gnil ?_
  | with_reducible refine Z.s_for ?_
  | with_reducible refine Z.s_rng1 ?_
  | with_reducible refine Z.s_rng2 ?_
  | with_reducible refine Z.s_itl ?_
  | with_reducible refine Z.s_itt ?_
  | with_reducible refine Z.s_isU_n ?_
  | with_reducible refine Z.s_notU_n ?_
  | with_reducible refine Z.s_isU_b ?_
  | with_reducible refine Z.s_notU_b ?_
  | with_reducible refine Z.s_isN_i ?_
  | with_reducible refine Z.s_isN_r ?_
  | with_reducible refine Z.s_isN_s ?_
  | with_reducible refine Z.s_isN_n ?_
  | with_reducible refine Z.s_notN_i ?_
  | with_reducible refine Z.s_notN_r ?_
  | with_reducible refine Z.s_notN_s ?_
  | with_reducible refine Z.s_notN_n ?_
  | with_reducible refine Z.s_slL ?_
  | with_reducible refine Z.s_nopart ?_
  | with_reducible refine Z.s_part ?_
  | with_reducible refine Z.s_zpart ?_
  | ((with_reducible refine' Z.s_cutL ?zh ?_); case zh => walk_at "sq")
  | with_reducible refine Z.s_ift ?_
  | with_reducible refine Z.s_iff ?_
  | with_reducible refine Z.s_nt ?_
  | with_reducible refine Z.s_nf ?_
  | with_reducible refine Z.s_zbody ?_
  | with_reducible refine Z.s_lc ?_
  | with_reducible refine Z.s_yes ?_
  | ((with_reducible refine Z.s_wipe ?zh ?_); case zh => rfl)
  | ((with_reducible refine' Z.s_zitl ?zh ?_); case zh => walk_at "sq")
  | ((with_reducible refine' Z.s_zitt ?zh ?_); case zh => walk_at "sq")
  | with_reducible refine Z.s_ifE ?_
  | with_reducible refine Z.s_andV ?_
  | with_reducible refine Z.s_orV ?_
  | with_reducible refine Z.s_notV ?_
  | with_reducible refine Z.s_retN ?_
  | with_reducible refine Z.s_break ?_
  | with_reducible refine Z.s_cont ?_
  | ((with_reducible refine Z.s_zrng1 ?zh ?_); case zh => omega)
  | ((with_reducible refine Z.s_zrng2 ?zh ?_); case zh => omega)
  | ((with_reducible refine Z.s_modp ?zh ?_); case zh => omega)
  | ((with_reducible refine Z.s_fdvp ?zh ?_); case zh => omega)
  | ((with_reducible refine Z.s_mulp ?zh ?_); case zh => omega)
  | ((with_reducible refine' Z.s_len_l ?zh ?_); case zh => walk_at "sq")
  | ((with_reducible refine' Z.s_len_t ?zh ?_); case zh => walk_at "sq")
  | ((with_reducible refine' Z.s_zTyL ?zh ?_); case zh => walk_at "hp")
  | with_reducible refine Z.s_meth ?_
  | with_reducible refine Z.s_make ?_
  | with_reducible refine Z.s_fldset ?_
  | with_reducible refine Z.s_rev ?_
  | ((with_reducible refine' Z.s_zrev ?zh ?_); case zh => walk_at "sq")
  | with_reducible refine Z.s_lstRg ?_
  | with_reducible refine Z.isi_int ?_
  | with_reducible refine Z.isi_int_bool ?_
  | ((with_reducible refine' Z.isi_list ?zh ?_); case zh => walk_at "sq")
  | ((with_reducible refine' Z.isi_tup ?zh ?_); case zh => walk_at "sq")
  | walk_at "own"
  | with_reducible refine Z.s_zTyS ?_
  | ((with_reducible refine' Z.s_zTyL' ?zh ?_); case zh => walk_at "sq")
  | ((with_reducible refine' Z.s_listof_l ?zh ?_); case zh => walk_at "sq")
  | ((with_reducible refine' Z.s_listof_t ?zh ?_); case zh => walk_at "sq")
  | ((with_reducible refine' Z.s_tupof_l ?zh ?_); case zh => walk_at "sq")
  | ((with_reducible refine' Z.s_tupof_t ?zh ?_); case zh => walk_at "sq")
  | ((with_reducible refine' Z.s_gun_t ?zh ?zl ?_); (case zh => walk_at "sq"); case zl => rfl)
  | ((with_reducible refine' Z.s_gun_l ?zh ?zl ?_); (case zh => walk_at "sq"); case zl => rfl))
local macro_rules | `(tactic| walk_at "zz") => `(tactic| repeat (walk_at "s"))
/-! ### pens and frames -/
local macro_rules | `(tactic| walk_at "st") => `(tactic| first
  | with_reducible assumption
  | ((with_reducible refine' Z.Pn.new ?zs ?zn); (case zn => with_reducible assumption); case zs => walk_at "st")
  | ((with_reducible refine' Z.Pn.same ?zs ?zn); (case zn => with_reducible assumption); case zs => walk_at "st")
  | ((with_reducible refine' Z.Pn.butN ?zs ?zb ?zn); (case zb => with_reducible assumption); (case zn => walk_at "np"); case zs => walk_at "st"))
local macro_rules | `(tactic| walk_at "np") => `(tactic| first
  | with_reducible assumption
  | ((with_reducible refine' Ne.symm ?_); with_reducible assumption)
  | ((with_reducible refine' Z.Pn.ne ?zs ?zn); (case zn => with_reducible assumption); case zs => walk_at "st")
  | ((with_reducible refine' Ne.symm (Z.Pn.ne ?zs ?zn)); (case zn => with_reducible assumption); case zs => walk_at "st")
  | ((with_reducible refine' L2.ne_of_none ?zn ?zm); (case zm => with_reducible assumption); case zn => walk_at "hp")
  | ((with_reducible refine' Ne.symm (L2.ne_of_none ?zn ?zm)); (case zm => with_reducible assumption); case zn => walk_at "hp"))
local macro_rules | `(tactic| walk_at "no") => `(tactic| first
  | with_reducible assumption
  | ((with_reducible refine' Z.Same.free ?zs ?zn); (case zn => with_reducible assumption); case zs => walk_at "sm")
  | ((with_reducible refine' Z.But.none ?zs ?zm ?zn); (case zn => with_reducible assumption); (case zs => walk_at "bt"); case zm => walk_at "np"))
local macro_rules | `(tactic| walk_at "sm") => `(tactic| first
  | with_reducible assumption
  | ((with_reducible refine' Z.same_new ?zn); (case zn => with_reducible assumption))
  | ((with_reducible refine' Z.Same.trans ?zs (Z.same_new ?zn)); (case zn => with_reducible assumption); case zs => walk_at "sm")
  | ((with_reducible refine' Z.same_own ?zs ?zb ?zn); (case zb => with_reducible assumption); (case zs => walk_at "sm"); case zn => walk_at "no")
  | ((with_reducible refine' Z.Same.trans ?zs ?zn); (case zn => with_reducible assumption); case zs => walk_at "sm")
  | with_reducible exact Z.Same.refl _)
local macro_rules | `(tactic| walk_at "bt") => `(tactic| first
  | with_reducible assumption
  | ((with_reducible refine' Z.But.new ?zs ?zn); (case zn => with_reducible assumption); case zs => walk_at "bt")
  | ((with_reducible refine' Z.But.trans ?zs ?zn); (case zn => with_reducible assumption); case zs => walk_at "bt")
  | ((with_reducible refine' Z.But.trans ?zs (Z.But.of ?zn)); (case zn => with_reducible assumption); case zs => walk_at "bt")
  | ((with_reducible refine' Z.But.own ?zs ?zb ?zn); (case zb => with_reducible assumption); (case zs => walk_at "bt"); case zn => walk_at "no")
  | with_reducible exact Z.But.refl _ _)
local macro_rules | `(tactic| walk_at "tk") => `(tactic| first
  | ((with_reducible refine' My.c_take ?zm ?zs ?_); (case zm => omega); (case zs => walk_at "st")))
/-! ### nodes in a law's text -/
local macro_rules | `(tactic| walk_at "ow") => `(tactic| first
  | exact My.own5
  | exact My.own7
  | exact My.own8 (by omega) rfl
  | exact My.own0 (by first | assumption | exact My.fig_sm (by omega))
  | exact My.own1 (by omega)
  | exact My.own2 (by omega)
  | exact My.own3 (by omega) rfl
  | exact My.own4 (m := 2) (by omega) rfl
  | exact My.own4 (m := 3) (by omega) rfl
  | exact My.own6 (n := 0) rfl rfl rfl
  | exact My.own6 (n := 1) rfl rfl rfl)
local macro_rules | `(tactic| walk_at "bi") => `(tactic| first
  | ((with_reducible refine' My.bi_nil ?zo); case zo => walk_at "ow")
  | ((with_reducible refine' My.bi_c ?zo); case zo => walk_at "ow")
  | ((with_reducible refine' My.bi_neg ?zo); case zo => walk_at "ow")
  | ((refine' My.bi_v rfl ?zo); case zo => walk_at "ow")
  | ((refine' My.bi_take rfl ?zd ?zo); (case zd => decide); case zo => (intro z z0 z1; walk_at "ow"))
  | ((refine' My.bi_num rfl ?zo); case zo => (intro z hz; exact My.own0 hz)))
local macro_rules | `(tactic| walk_at "bp") => `(tactic| first
  | with_reducible exact My.bp_nil
  | ((with_reducible refine' My.bp_cons ?zd ?zp); (case zd => walk_at "bd"); case zp => walk_at "bp"))
local macro_rules | `(tactic| walk_at "bd") => `(tactic| first
  | assumption
  | exact My.bd_var rfl (by assumption) (by assumption) (by assumption) (by omega) (by assumption)
  | ((with_reducible refine' My.bd_node (by assumption) (by decide) ?zo ?zp); (case zp => walk_at "bp"); case zo => walk_at "bi")
  | ((with_reducible refine' My.bd_loop (by assumption) ?zo ?zp); (case zp => walk_at "bp"); case zo => walk_at "bi"))
local macro_rules | `(tactic| walk_at "zn") => `(tactic| repeat ((fail_if_success (with_reducible refine Z.s_tup ?_)); walk_at "s"))
namespace My
open PySem Z
open L2 hiding rLen Same Same.refl Same.trans Same.free Same.seq Same.made
variable [iq : TQ]
theorem rd_NoText_init {Z : Adr} (T : Top Z) {a0 a1 : V} {H : Hp} {Q : VK} {E : XK} (h : q_NoText_init Z a0 a1 H Q E) : t_NoText_init Z (fun cls d _ H => E cls d H) ⟨fun _ H' => Q .non H', Q, fun _ _ => False, fun _ _ => False⟩ [some a0, some a1] H := by
  unfold t_NoText_init
  obtain ⟨p, rfl, hp, q⟩ := h
  walk_at "zz"
  refine s_vei ?_
  walk_at "zz"
  refine ⟨p, Z.c_NoText, [_], rfl, by show 1 ≤ 1000; decide, T.ox_NoText, hp, ?_⟩
  walk_at "zz"
  refine s_ost ?_
  walk_at "zz"
  refine ⟨p, Z.c_NoText, rfl, T.ox_NoText, T.na_NoText_at, .inl ⟨hp, fun d hd hdp => ?_⟩⟩
  exact q d hd hdp

theorem rd_is_whole {Z : Adr} (T : Top Z) {a0 : V} {H : Hp} {Q : VK} {E : XK} (h : q_is_whole Z a0 H Q E) : t_is_whole Z (fun cls d _ H => E cls d H) ⟨fun _ H' => Q .non H', Q, fun _ _ => False, fun _ _ => False⟩ [some a0] H := by
  unfold t_is_whole
  obtain ⟨i, rfl, q⟩ := h
  walk_at "zz"
  exact q

theorem rd_are_wholes {Z : Adr} (T : Top Z) {a0 a1 : V} {H : Hp} {Q : VK} {E : XK} (h : q_are_wholes Z a0 a1 H Q E) : t_are_wholes Z (fun cls d _ H => E cls d H) ⟨fun _ H' => Q .non H', Q, fun _ _ => False, fun _ _ => False⟩ [some a0, some a1, none, none] H := by
  unfold t_are_wholes
  obtain ⟨xs, m, ⟨p, rfl, hs⟩, rfl, hl, q⟩ := h
  have big : 1000000 ≤ sizeLine := by decide
  walk_at "zz"
  intro t ht
  have S0 : Same H (upd H t (.tup [.ty "list", .ty "tuple"])) := same_new ht
  have hs1 := seqU_same S0 hs
  refine isi_ltU upd_same hs1 ?_
  walk_at "zz"
  refine s_lenU hs1 ?_
  walk_at "zz"
  rw [List.length_map]
  refine s_ifn (fun c => ?_) (fun c => ?_)
  · walk_at "zz"
    have := q _ S0
    rw [decide_eq_false c] at this
    exact this
  · walk_at "zz"
    refine s_iunV hs1 rfl fun k hk => ?_
    generalize upd H t (.tup [.ty "list", .ty "tuple"]) = H1 at *
    refine lc_un (xs.map V.int) (fun D j H' => Same H1 H' ∧ H' D = some (.lst ((List.replicate j true).map V.bl))) (fun D hD => ⟨same_new hD, upd_same⟩) (fun D j H' hD hj h => hk.same h.1) ?_ ?_
    · rintro D j x H2 hD hx ⟨S2, h2⟩
      rw [List.getElem?_map] at hx
      obtain ⟨i, hi, rfl⟩ := Option.map_eq_some_iff.mp hx
      have hj := (List.getElem?_eq_some_iff.mp hi).1
      walk_at "zz"
      refine cl_is_whole ⟨i, rfl, ?_⟩
      refine c_acc h2 (by rw [List.length_map, List.length_replicate]; omega) fun H3 B3 h3 => ⟨same_own S2 B3 hD, ?_⟩
      rw [h3, List.replicate_succ', List.map_append]; rfl
    · rintro D H2 hD ⟨S2, h2⟩
      refine s_all (SqL.of h2) ?_
      have := q _ (S0.trans S2)
      rw [decide_eq_true c] at this
      rw [show ((List.replicate (xs.map V.int).length true).all id) = true by simp]
      exact this

theorem rd_fits_op {Z : Adr} (T : Top Z) {a0 a1 a2 a3 : V} {H : Hp} {Q : VK} {E : XK} (h : q_fits_op Z a0 a1 a2 a3 H Q E) : t_fits_op Z (fun cls d _ H => E cls d H) ⟨fun _ H' => Q .non H', Q, fun _ _ => False, fun _ _ => False⟩ [some a0, some a1, some a2, some a3] H := by
  unfold t_fits_op
  obtain ⟨op, n, fs, rs, rfl, rfl, rfl, rfl, q1, q2⟩ := h
  walk_at "zz"
  refine s_ifd (fun c => ?_) (fun c => ?_)
  · walk_at "zz"
    exact q1 (.inl c) _ (Same.refl _)
  walk_at "zz"
  intro t1 ht1
  refine s_in_t (SqT.of upd_same) rfl rfl ?_
  have S1 := same_new (o := .tup [V.int 1, .int 2]) ht1
  walk_at "zz"
  rw [show inV (.int op) [V.int 1, .int 2] = decide (op = 1 ∨ op = 2) from (inV_ints op [1, 2]).trans (by simp)]
  generalize upd H t1 (.tup [V.int 1, .int 2]) = H1 at *
  refine s_ifd (fun c1 => ?_) (fun c1 => ?_)
  · walk_at "zz"
    refine s_ifd (fun c2 => ?_) (fun c2 => ?_)
    · walk_at "zz"
      by_cases c3 : n < 12
      · rw [decide_eq_true c3]; exact q1 (.inr (.inl ⟨c1, c2, c3⟩)) _ S1
      · rw [decide_eq_false c3]; exact q2 (by unfold OpOK; omega) _ S1
    · exact q2 (by unfold OpOK; omega) _ S1
  walk_at "zz"
  intro t2 ht2
  refine s_in_t (SqT.of upd_same) rfl rfl ?_
  have S2 := S1.trans (same_new (o := .tup [V.int 4, .int 5]) ht2)
  walk_at "zz"
  rw [show inV (.int op) [V.int 4, .int 5] = decide (op = 4 ∨ op = 5) from (inV_ints op [4, 5]).trans (by simp)]
  generalize upd H1 t2 (.tup [V.int 4, .int 5]) = H2 at *
  refine s_ifd (fun c4 => ?_) (fun c4 => ?_)
  · walk_at "zz"
    refine s_ifd (fun c2 => ?_) (fun c2 => ?_)
    · walk_at "zz"
      by_cases c3 : n < rs
      · rw [decide_eq_true c3]; exact q1 (.inr (.inr (.inl ⟨c4, c2, c3⟩))) _ S2
      · rw [decide_eq_false c3]; exact q2 (by unfold OpOK; omega) _ S2
    · exact q2 (by unfold OpOK; omega) _ S2
  walk_at "zz"
  refine s_ifd (fun c6 => ?_) (fun c6 => ?_)
  · walk_at "zz"
    refine s_ifd (fun c2 => ?_) (fun c2 => ?_)
    · walk_at "zz"
      by_cases c3 : n < fs
      · rw [decide_eq_true c3]; exact q1 (.inr (.inr (.inr (.inl ⟨c6, c2, c3⟩)))) _ S2
      · rw [decide_eq_false c3]; exact q2 (by unfold OpOK; omega) _ S2
    · exact q2 (by unfold OpOK; omega) _ S2
  walk_at "zz"
  intro t3 ht3
  refine s_in_t (SqT.of upd_same) rfl rfl ?_
  have S3 := S2.trans (same_new (o := .tup [V.int 3, .int 7, .int 8, .int 9]) ht3)
  walk_at "zz"
  rw [show inV (.int op) [V.int 3, .int 7, .int 8, .int 9] = decide (op = 3 ∨ op = 7 ∨ op = 8 ∨ op = 9) from (inV_ints op [3, 7, 8, 9]).trans (by simp)]
  generalize upd H2 t3 (.tup [V.int 3, .int 7, .int 8, .int 9]) = H3 at *
  refine s_ifd (fun c7 => ?_) (fun c7 => ?_)
  · walk_at "zz"
    by_cases c3 : n = 0
    · rw [decide_eq_true c3]; exact q1 (.inr (.inr (.inr (.inr (.inl ⟨c7, c3⟩))))) _ S3
    · rw [decide_eq_false c3]; exact q2 (by unfold OpOK; omega) _ S3
  walk_at "zz"
  refine s_ifd (fun c10 => ?_) (fun c10 => ?_)
  · walk_at "zz"
    refine s_ifd (fun c2 => ?_) (fun c2 => ?_)
    · walk_at "zz"
      by_cases c3 : n ≤ 19
      · rw [decide_eq_true c3]; exact q1 (.inr (.inr (.inr (.inr (.inr (.inl ⟨c10, c2, c3⟩)))))) _ S3
      · rw [decide_eq_false c3]; exact q2 (by unfold OpOK; omega) _ S3
    · exact q2 (by unfold OpOK; omega) _ S3
  walk_at "zz"
  refine s_ifd (fun c11 => ?_) (fun c11 => ?_)
  · walk_at "zz"
    refine s_ifd (fun c2 => ?_) (fun c2 => ?_)
    · walk_at "zz"
      by_cases c3 : n ≤ 12
      · rw [decide_eq_true c3]; exact q1 (.inr (.inr (.inr (.inr (.inr (.inr ⟨c11, c2, c3⟩)))))) _ S3
      · rw [decide_eq_false c3]; exact q2 (by unfold OpOK; omega) _ S3
    · exact q2 (by unfold OpOK; omega) _ S3
  · exact q2 (by unfold OpOK; omega) _ S3

theorem rd_fits_head {Z : Adr} (T : Top Z) {a0 a1 a2 : V} {H : Hp} {Q : VK} {E : XK} (h : q_fits_head Z a0 a1 a2 H Q E) : t_fits_head Z (fun cls d _ H => E cls d H) ⟨fun _ H' => Q .non H', Q, fun _ _ => False, fun _ _ => False⟩ [some a0, some a1, some a2, none, none, none] H := by
  unfold t_fits_head
  obtain ⟨x, i, m, ⟨t, rfl, hs⟩, hx, rfl, rfl, q1, q2⟩ := h
  obtain ⟨s, p, b, rfl⟩ : ∃ s p b, x = [s, p, b] := by
    match x, hx with
    | [s, p, b], _ => exact ⟨s, p, b, rfl⟩
  have no : ¬ (0 ≤ s ∧ s < m ∧ 0 ≤ p ∧ p ≤ (if 0 < i then 4 else 0) ∧ p ≤ b ∧ b ≤ 12) → Q (.bl false) H := fun z => q2 (by
    rintro ⟨s', p', b', e, c⟩
    cases e
    exact z c)
  walk_at "zz"
  refine s_gunU (xs := [.int s, .int p, .int b]) hs rfl ?_
  walk_at "zz"
  refine s_ifd (fun c1 => ?_) (fun c1 => ?_)
  rotate_left
  · walk_at "zz"
    exact no (by omega)
  walk_at "zz"
  refine s_ifn (fun c2 => ?_) (fun c2 => ?_)
  · walk_at "zz"
    exact no (by omega)
  walk_at "zz"
  refine s_ifd (D := 0 ≤ p) (fun c3 => ?_) (fun c3 => ?_)
  rotate_left
  · walk_at "zz"
    exact no (by omega)
  walk_at "zz"
  rw [show (4 : Int) * (if decide ((0 : Int) < (i : Int)) = true then 1 else 0) = if 0 < i then 4 else 0 by
    by_cases z : 0 < i
    · rw [if_pos z, if_pos (by simpa using z)]; rfl
    · rw [if_neg z, if_neg (by simpa using z)]; rfl]
  by_cases c4 : p ≤ (if 0 < i then 4 else 0)
  rotate_left
  · rw [decide_eq_false c4]
    walk_at "zz"
    exact no (fun z => c4 z.2.2.2.1)
  rw [decide_eq_true c4]
  walk_at "zz"
  refine s_ifd (fun c5 => ?_) (fun c5 => ?_)
  rotate_left
  · exact no (by omega)
  walk_at "zz"
  by_cases c6 : b ≤ 12
  · rw [decide_eq_true c6]
    exact q1 ⟨s, p, b, rfl, c1, c2, c3, c4, c5, c6⟩
  · rw [decide_eq_false c6]
    exact no (by omega)

theorem rd_make_code {Z : Adr} (T : Top Z) {a0 a1 : V} {H : Hp} {Q : VK} {E : XK} (h : q_make_code Z a0 a1 H Q E) : t_make_code Z (fun cls d _ H => E cls d H) ⟨fun _ H' => Q .non H', Q, fun _ _ => False, fun _ _ => False⟩ [some a0, some a1, none, none, none] H := by
  unfold t_make_code
  obtain ⟨hs, rs, ⟨lh, vh, rfl, eh, rh⟩, ⟨lr, vr, rfl, er, rr⟩, h3, r2, hh, hr, q1, q2⟩ := h
  have lenh := rh.len
  have lenr := rr.len
  walk_at "zz"
  refine s_lenU eh ?_
  walk_at "zz"
  rw [lenh]
  refine s_ifd (fun c1 => ?_) (fun c1 => ?_)
  rotate_left
  · walk_at "zz"
    exact q2 (fun C => by have := C.h1; omega) _ (Same.refl _)
  walk_at "zz"
  by_cases c2 : (hs.length : Int) ≤ 16
  rotate_left
  · rw [decide_eq_false c2]
    walk_at "zz"
    exact q2 (fun C => by have := C.h16; omega) _ (Same.refl _)
  rw [decide_eq_true c2]
  walk_at "zz"
  refine s_lenU er ?_
  walk_at "zz"
  rw [lenr]
  refine s_ifd (fun c3 => ?_) (fun c3 => ?_)
  · walk_at "zz"
    exact q2 (fun C => by have := C.r1; omega) _ (Same.refl _)
  walk_at "zz"
  refine s_lenU eh ?_
  walk_at "zz"
  rw [lenh]
  refine loop_range (fun i σ' H' => H = H' ∧ (∀ j h, j < i → hs[j]? = some h → HeadOK h j rs.length) ∧ ∃ x, σ' = [some (.ref lh), some (.ref lr), x, none, none]) ⟨rfl, fun j h hj => by omega, _, rfl⟩ ?_ ?_
  · rintro i σ' H' hi ⟨rfl, hd, x, rfl⟩
    have hi' : i < hs.length := by omega
    obtain ⟨v, ev, t, rfl, ht⟩ := rh.get (List.getElem?_eq_getElem hi')
    walk_at "zz"
    rw [show (0 : Int) + (i : Int) = i by omega]
    refine s_ixU eh (atI_nat ev) ?_
    walk_at "zz"
    refine s_lenU er ?_
    walk_at "zz"
    rw [lenr]
    refine cl_fits_head ⟨hs[i], i, rs.length, ⟨t, rfl, ht⟩, h3 _ (List.getElem_mem _), rfl, rfl, fun ok => ?_, fun no => ?_⟩
    · walk_at "zz"
      refine ⟨rfl, fun j h hj e => ?_, _, rfl⟩
      by_cases c : j = i
      · subst c
        rw [List.getElem?_eq_getElem hi'] at e
        cases e; exact ok
      · exact hd j h (by omega) e
    · walk_at "zz"
      exact q2 (fun C => no (C.hd i _ (List.getElem?_eq_getElem hi'))) _ (Same.refl _)
  · rintro σ' H' ⟨rfl, hd, x, rfl⟩
    have hd' : ∀ j h, hs[j]? = some h → HeadOK h j rs.length := fun j h e => hd j h (by have := (List.getElem?_eq_some_iff.mp e).1; omega) e
    walk_at "zz"
    refine s_iunV er rfl fun k hk => ?_
    refine loop_un vr (fun i σ' H' => Same H H' ∧ (∀ j r, j < i → rs[j]? = some r → RowOK r hs.length rs.length) ∧ ∃ x3 x4, σ' = [some (.ref lh), some (.ref lr), x, x3, x4]) ⟨Same.refl _, fun j h hj => by omega, _, _, rfl⟩ (fun i σ' H' hi h => hk.same h.1) ?_ ?_
    · rintro i v σ' H2 hv ⟨S2, hr2, x3, x4, rfl⟩
      obtain ⟨r, e, t, rfl, ht⟩ := rr.getv hv
      obtain ⟨op, n, rfl⟩ : ∃ op n, r = [op, n] := by
        have := r2 r (List.mem_of_getElem? e)
        match r, this with
        | [op, n], _ => exact ⟨op, n, rfl⟩
      have eh2 := seqU_same S2 eh
      have er2 := seqU_same S2 er
      walk_at "zz"
      refine s_gunU (xs := [.int op, .int n]) (seqU_same S2 ht) rfl ?_
      walk_at "zz"
      refine s_lenU eh2 ?_
      walk_at "zz"
      refine s_lenU er2 ?_
      walk_at "zz"
      rw [lenh, lenr]
      refine cl_fits_op ⟨op, n, hs.length, rs.length, rfl, rfl, rfl, rfl, fun ok H3 S3 => ?_, fun no H3 S3 => ?_⟩
      · walk_at "zz"
        refine ⟨S2.trans S3, fun j h hj e2 => ?_, _, _, rfl⟩
        by_cases c : j = i
        · subst c
          rw [e] at e2
          cases e2; exact ⟨op, n, rfl, ok⟩
        · exact hr2 j h (by omega) e2
      · walk_at "zz"
        refine q2 (fun C => ?_) _ (S2.trans S3)
        obtain ⟨a, b, e2, ok⟩ := C.rw _ (List.mem_of_getElem? e)
        cases e2
        exact no ok
    · rintro σ' H2 ⟨S2, hr2, x3, x4, rfl⟩
      walk_at "zz"
      refine q1 ⟨by omega, by omega, by omega, hd', fun r hr => ?_⟩ _ S2
      obtain ⟨j, hj⟩ := List.mem_iff_getElem?.mp hr
      exact hr2 j r (by have := (List.getElem?_eq_some_iff.mp hj).1; rw [lenr]; exact this) hj

theorem rd_code_of {Z : Adr} (T : Top Z) {a0 a1 : V} {H : Hp} {Q : VK} {E : XK} (h : q_code_of Z a0 a1 H Q E) : t_code_of Z (fun cls d _ H => E cls d H) ⟨fun _ H' => Q .non H', Q, fun _ _ => False, fun _ _ => False⟩ [some a0, some a1, none, none, none, none] H := by
  unfold t_code_of
  obtain ⟨hs, rs, ⟨lh, vh, rfl, eh, rh⟩, ⟨lr, vr, rfl, er, rr⟩, c3, c2, hhl, hrl, q, qn⟩ := h
  obtain ⟨kh, eh⟩ := SqB.of eh
  obtain ⟨kr, er⟩ := SqB.of er
  have big : 1000000 ≤ sizeLine := by decide
  have lenh := rh.len
  have lenr := rr.len
  walk_at "zz"
  intro t1 ht1
  have S1 := same_new (o := .tup [.ty "list", .ty "tuple"]) ht1
  refine isi_ltU upd_same (eh.same S1).or ?_
  walk_at "zz"
  intro t2 ht2
  have S2 := S1.trans (same_new (o := .tup [.ty "list", .ty "tuple"]) ht2)
  refine isi_ltU upd_same (er.same S2).or ?_
  generalize upd (upd H t1 (.tup [.ty "list", .ty "tuple"])) t2 (.tup [.ty "list", .ty "tuple"]) = H2 at *
  walk_at "zz"
  refine s_iunB (eh.same S2) rfl ?_
  refine lc_un vh (fun D j H' => Same H2 H' ∧ H' D = some (.lst ((List.replicate j true).map V.bl))) (fun D hD => ⟨same_new hD, upd_same⟩) (fun D j H' hD hj h => eh.same (S2.trans h.1)) ?_ ?_
  · rintro D j v H3 hD hv ⟨S3, h3⟩
    obtain ⟨x, hx, t, rfl, ht⟩ := rh.getv hv
    have hj := (List.getElem?_eq_some_iff.mp hv).1
    walk_at "zz"
    refine cl_are_wholes ⟨x, 3, ⟨t, rfl, seqU_same (S2.trans S3) ht⟩, rfl, by rw [c3 x (List.mem_of_getElem? hx)]; omega, fun H4 S4 => ?_⟩
    rw [c3 x (List.mem_of_getElem? hx)]
    refine c_acc (S4 _ _ h3) (by rw [List.length_map, List.length_replicate]; omega) fun H5 B5 h5 => ⟨same_own (S3.trans S4) B5 hD, ?_⟩
    rw [h5, List.replicate_succ', List.map_append]; rfl
  rintro D H3 hD ⟨S3, h3⟩
  walk_at "zz"
  refine s_all (SqL.of h3) ?_
  rw [show (List.replicate vh.length true).all id = true by simp]
  have S03 := S2.trans S3
  walk_at "zz"
  refine s_iunB (er.same S03) rfl ?_
  refine lc_un vr (fun D j H' => Same H3 H' ∧ H' D = some (.lst ((List.replicate j true).map V.bl))) (fun D hD => ⟨same_new hD, upd_same⟩) (fun D j H' hD hj h => er.same (S03.trans h.1)) ?_ ?_
  · rintro D2 j v H4 hD2 hv ⟨S4, h4⟩
    obtain ⟨x, hx, t, rfl, ht⟩ := rr.getv hv
    have hj := (List.getElem?_eq_some_iff.mp hv).1
    walk_at "zz"
    refine cl_are_wholes ⟨x, 2, ⟨t, rfl, seqU_same (S03.trans S4) ht⟩, rfl, by rw [c2 x (List.mem_of_getElem? hx)]; omega, fun H5 S5 => ?_⟩
    rw [c2 x (List.mem_of_getElem? hx)]
    refine c_acc (S5 _ _ h4) (by rw [List.length_map, List.length_replicate]; omega) fun H6 B6 h6 => ⟨same_own (S4.trans S5) B6 hD2, ?_⟩
    rw [h6, List.replicate_succ', List.map_append]; rfl
  rintro D2 H4 hD2 ⟨S4, h4⟩
  walk_at "zz"
  refine s_all (SqL.of h4) ?_
  rw [show (List.replicate vr.length true).all id = true by simp]
  have S04 := S03.trans S4
  walk_at "zz"
  refine cl_make_code ⟨hs, rs, ListI.same S04 ⟨lh, vh, rfl, eh.or, rh⟩, ListI.same S04 ⟨lr, vr, rfl, er.or, rr⟩, c3, c2, by omega, by omega, fun C H5 S5 => ?_, fun nC H5 S5 => ?_⟩
  rotate_left
  · walk_at "zz"
    refine s_raiseN ?_
    exact qn nC _ (S04.trans S5)
  have lh16 := C.h16
  have S05 := S04.trans S5
  walk_at "zz"
  refine s_lenU (eh.same S05).or ?_
  walk_at "zz"
  intro lf hlf
  walk_at "zz"
  have S06 := S05.trans (same_new (o := .lst [.int vh.length]) hlf)
  have hlf0 := S05.free hlf
  refine s_iunB (eh.same S06) rfl ?_
  have sum3 : ∀ i, (hs.take i).flatten.length ≤ 100 := fun i => by
    rw [flat_sum fun x hx => c3 x (List.mem_of_mem_take hx), List.length_take]
    omega
  have sum2 : ∀ i, (rs.take i).flatten.length ≤ 100000 := fun i => by
    rw [flat_sum fun x hx => c2 x (List.mem_of_mem_take hx), List.length_take]
    omega
  refine loop_un vh (fun i σ' H' => Same H H' ∧ H' lf = some (.lst (((hs.length : Int) :: (hs.take i).flatten).map V.int)) ∧ ∃ x2 x5, σ' = [some (.ref lh), some (.ref lr), x2, none, some (.ref lf), x5]) ⟨S06, by rw [upd_same, lenh]; rfl, _, _, rfl⟩ (fun i σ' H' hi h => eh.same h.1) ?_ ?_
  · rintro i v σ' H7 hv ⟨S7, h7, x2, x5, rfl⟩
    obtain ⟨x, hx, t, rfl, ht⟩ := rh.getv hv
    have hx3 := c3 x (List.mem_of_getElem? hx)
    have hi := List.getElem?_eq_some_iff.mp hx
    walk_at "zz"
    refine s_listU (seqU_same S7 ht) fun l hl => ?_
    walk_at "zz"
    refine c_extend (zs := x.map V.int) (up_new hl h7) upd_same (by have := sum3 i; simp only [List.length_map, List.length_cons]; omega) fun H8 B8 h8 => ?_
    walk_at "zz"
    refine ⟨same_own (S7.trans (same_new hl)) B8 hlf0, ?_, _, _, rfl⟩
    rw [h8, List.take_succ_eq_append_getElem hi.1, hi.2, List.flatten_append]
    simp
  rintro σ' H7 ⟨S7, h7, x2, x5, rfl⟩
  rw [show vh.length = hs.length from lenh, List.take_length] at h7
  walk_at "zz"
  refine s_iunB (er.same S7) rfl ?_
  refine loop_un vr (fun i σ' H' => Same H H' ∧ H' lf = some (.lst (((hs.length : Int) :: (hs.flatten ++ (rs.take i).flatten)).map V.int)) ∧ ∃ x2 x3 x5, σ' = [some (.ref lh), some (.ref lr), x2, x3, some (.ref lf), x5]) ⟨S7, by rw [h7]; simp, _, _, _, rfl⟩ (fun i σ' H' hi h => er.same h.1) ?_ ?_
  · rintro i v σ' H8 hv ⟨S8, h8, x2, x3, x5, rfl⟩
    obtain ⟨x, hx, t, rfl, ht⟩ := rr.getv hv
    have hx3 := c2 x (List.mem_of_getElem? hx)
    have hi := List.getElem?_eq_some_iff.mp hx
    walk_at "zz"
    refine s_listU (seqU_same S8 ht) fun l hl => ?_
    walk_at "zz"
    refine c_extend (zs := x.map V.int) (up_new hl h8) upd_same (by have := sum2 i; have := sum3 hs.length; rw [List.take_length] at this; simp only [List.length_map, List.length_cons, List.length_append]; omega) fun H9 B9 h9 => ?_
    walk_at "zz"
    refine ⟨same_own (S8.trans (same_new hl)) B9 hlf0, ?_, _, _, _, rfl⟩
    rw [h9, List.take_succ_eq_append_getElem hi.1, hi.2, List.flatten_append]
    simp
  rintro σ' H8 ⟨S8, h8, x2, x3, x5, rfl⟩
  rw [show vr.length = rs.length from lenr, List.take_length] at h8
  walk_at "zz"
  exact q C lf H8 S8 hlf0 h8

theorem rd_word_of {Z : Adr} (T : Top Z) {a0 : V} {H : Hp} {Q : VK} {E : XK} (h : q_word_of Z a0 H Q E) : t_word_of Z (fun cls d _ H => E cls d H) ⟨fun _ H' => Q .non H', Q, fun _ _ => False, fun _ _ => False⟩ [some a0] H := by
  unfold t_word_of
  obtain ⟨i, w, rfl, hw, q⟩ := h
  walk_at "zz"
  refine s_add_t (T.s_EARLY H) (T.s_LATE H) (by simp) (by simp) (by decide) ?_
  intro t ht
  walk_at "zz"
  refine s_ix_t (SqT.of upd_same) (at_of (j := i) (v := .str w) (by omega) ?_) ?_
  · show (WD.map V.str)[i]? = _
    rw [List.getElem?_map, hw]
    rfl
  · exact q _ (same_new ht)

theorem rd_kind_of {Z : Adr} (T : Top Z) {a0 : V} {H : Hp} {Q : VK} {E : XK} (h : q_kind_of Z a0 H Q E) : t_kind_of Z (fun cls d _ H => E cls d H) ⟨fun _ H' => Q .non H', Q, fun _ _ => False, fun _ _ => False⟩ [some a0, none] H := by
  unfold t_kind_of
  obtain ⟨w, rfl, q⟩ := h
  walk_at "zz"
  refine loop_range (fun i σ' H' => Same H H' ∧ kindO (2 + (i : Int)) (WD.drop i) w = kindW w ∧ ∃ x, σ' = [some (.str w), x]) ⟨Same.refl H, by simp [kindW], _, rfl⟩ ?_ ?_
  · rintro i σ' H' hi ⟨S, e, x, rfl⟩
    have hi' : i < WD.length := by rw [WD_len]; exact hi
    walk_at "zz"
    refine cl_word_of ⟨i, WD[i], rfl, List.getElem?_eq_getElem hi', fun H2 S2 => ?_⟩
    rw [List.drop_eq_getElem_cons hi'] at e
    have e : (if WD[i] = w then some (2 + (i : Int)) else kindO (2 + (i : Int) + 1) (WD.drop (i + 1)) w) = kindW w := e
    walk_at "zz"
    refine s_ifd (fun c => ?_) (fun c => ?_)
    · rw [if_pos c] at e
      walk_at "zz"
      have := q _ (S.trans S2)
      rw [← e] at this
      exact this
    · rw [if_neg c] at e
      walk_at "zz"
      exact ⟨S.trans S2, by rw [← e]; congr 1, _, rfl⟩
  · rintro σ' H' ⟨S, e, x, rfl⟩
    walk_at "zz"
    have e : none = kindW w := e
    have := q _ S
    rw [← e] at this
    exact this

theorem rd_is_of {Z : Adr} (T : Top Z) {a0 a1 a2 : V} {H : Hp} {Q : VK} {E : XK} (h : q_is_of Z a0 a1 a2 H Q E) : t_is_of Z (fun cls d _ H => E cls d H) ⟨fun _ H' => Q .non H', Q, fun _ _ => False, fun _ _ => False⟩ [some a0, some a1, some a2, none] H := by
  unfold t_is_of
  obtain ⟨w, sg, m, rfl, rfl, rfl, hw, q⟩ := h
  have hz : w.length ≤ sizeLine := Nat.le_trans hw (by decide)
  walk_at "zz"
  refine s_len_s hz ?_
  walk_at "zz"
  by_cases c1 : 1 ≤ (w.length : Int)
  · rw [decide_eq_true c1]
    walk_at "zz"
    by_cases c2 : (w.length : Int) ≤ m
    · rw [decide_eq_true c2]
      walk_at "zz"
      refine s_itstr ?_
      walk_at "zz"
      refine s_zitstr ?_
      refine loop_str (fun i σ' H' => Same H H' ∧ (∀ c ∈ w.cps.toList.take i, c ∈ sg.cps.toList) ∧ ∃ x, σ' = [some (.str w), some (.str sg), some (.int m), x]) ⟨Same.refl H, by simp, _, rfl⟩ ?_ ?_
      · rintro i cc σ' H' hc ⟨S, ha, x, rfl⟩
        have hc' : w.cps.toList[i]? = some cc := by rw [Array.getElem?_toList]; exact hc
        walk_at "zz"
        refine s_notInSg ?_
        walk_at "zz"
        refine s_ifnn (fun n => ?_) (fun n => ?_)
        · walk_at "zz"
          have e : isOf w sg m = false := by
            unfold isOf
            rw [decide_eq_true c1, decide_eq_true c2, Bool.true_and, Bool.true_and]
            refine List.all_eq_false.mpr ⟨cc, List.mem_of_getElem? hc', by simpa using n⟩
          have := q _ S
          rwa [e] at this
        · walk_at "zz"
          refine ⟨S, fun c hm => ?_, _, rfl⟩
          rw [List.take_add_one, hc'] at hm
          rcases List.mem_append.mp hm with z | z
          · exact ha c z
          · obtain rfl : c = cc := by simpa using z
            exact n
      · rintro σ' H' ⟨S, ha, x, rfl⟩
        walk_at "zz"
        have e : isOf w sg m = true := by
          unfold isOf
          rw [decide_eq_true c1, decide_eq_true c2, Bool.true_and, Bool.true_and]
          refine List.all_eq_true.mpr fun c hm => decide_eq_true (ha c ?_)
          rwa [← Array.length_toList, List.take_length]
        have := q _ S
        rwa [e] at this
    · rw [decide_eq_false c2]
      walk_at "zz"
      have e : isOf w sg m = false := by unfold isOf; rw [decide_eq_false c2]; simp
      have := q _ (Same.refl H)
      rwa [e] at this
  · rw [decide_eq_false c1]
    walk_at "zz"
    have e : isOf w sg m = false := by unfold isOf; rw [decide_eq_false c1]; simp
    have := q _ (Same.refl H)
    rwa [e] at this

theorem rd_is_number_of {Z : Adr} (T : Top Z) {a0 a1 : V} {H : Hp} {Q : VK} {E : XK} (h : q_is_number_of Z a0 a1 H Q E) : t_is_number_of Z (fun cls d _ H => E cls d H) ⟨fun _ H' => Q .non H', Q, fun _ _ => False, fun _ _ => False⟩ [some a0, some a1, none] H := by
  unfold t_is_number_of
  obtain ⟨w, m, rfl, rfl, hw, q⟩ := h
  have hz : w.length ≤ sizeLine := Nat.le_trans hw (by decide)
  have z0 : ("0" : Str) = ⟨#[48]⟩ := by kernel_rfl
  have key : ∀ {fg : Str} {H1 : Hp}, fg = figsW w → Same H H1 → fg.length ≤ 10000000 → (isOf fg FIG m = false → Q (.bl false) H1) ∧ ∀ cc, isOf fg FIG m = true → fg.cps.toList.head? = some cc → Q (.bl (!decide ((⟨#[cc]⟩ : Str) = "0") || decide (w = "0"))) H1 := by
    intro fg H1 e S hl
    subst e
    refine ⟨fun c => ?_, fun cc c hc => ?_⟩
    · have := q _ S
      have e2 : isNumM w m = false := by unfold isNumM; rw [c]; rfl
      rwa [e2] at this
    · have := q _ S
      have hh : (figsW w).cps.toList.head? = some cc := hc
      have e2 : isNumM w m = (!decide ((⟨#[cc]⟩ : Str) = "0") || decide (w = "0")) := by
        unfold isNumM
        rw [c, Bool.true_and, hh]
        congr 2
        by_cases d : cc = 48
        · rw [d]; rw [z0]; simp
        · rw [decide_eq_false (fun y => d (Option.some.inj y)), decide_eq_false (fun y => d (by rw [z0] at y; injection y with y; injection y with y; injection y))]
      rwa [e2] at this
  walk_at "zz"
  refine s_cut (fun σ' H' => Same H H' ∧ σ' = [some (.str w), some (.int m), some (.str (figsW w))]) ?_ ?_
  · walk_at "zz"
    refine s_slS hz ?_
    walk_at "zz"
    refine s_ifd (fun c => ?_) (fun c => ?_)
    · walk_at "zz"
      refine s_slS hz ?_
      walk_at "zz"
      exact ⟨Same.refl H, by unfold figsW; rw [if_pos c]; rfl⟩
    · walk_at "zz"
      exact ⟨Same.refl H, by unfold figsW; rw [if_neg c]; rfl⟩
  · rintro σ' H1 ⟨S1, rfl⟩
    have hl : (figsW w).length ≤ 10000000 := by
      unfold figsW
      by_cases c : cutS w none (some 1) = "-"
      · rw [if_pos c]; exact Nat.le_trans (cutS_le w _ _) hw
      · rw [if_neg c]; exact hw
    walk_at "zz"
    refine cl_is_of ⟨_, FIG, m, rfl, rfl, rfl, hl, fun H2 S2 => ?_⟩
    obtain ⟨k1, k2⟩ := key rfl (S1.trans S2) hl
    walk_at "zz"
    cases e : isOf (figsW w) FIG m with
    | false =>
      walk_at "zz"
      exact k1 e
    | true =>
      walk_at "zz"
      obtain ⟨cc, hc, hd⟩ := isOf_at e
      refine s_ix_s (Nat.le_trans hl (by decide)) hc ?_
      walk_at "zz"
      have := k2 cc e hd
      cases x : decide ((⟨#[cc]⟩ : Str) = "0") with
      | false => rw [x] at this; walk_at "zz"; exact this
      | true => rw [x] at this; walk_at "zz"; exact this

theorem rd_is_number_word {Z : Adr} (T : Top Z) {a0 : V} {H : Hp} {Q : VK} {E : XK} (h : q_is_number_word Z a0 H Q E) : t_is_number_word Z (fun cls d _ H => E cls d H) ⟨fun _ H' => Q .non H', Q, fun _ _ => False, fun _ _ => False⟩ [some a0] H := by
  unfold t_is_number_word
  obtain ⟨w, rfl, hw, q⟩ := h
  walk_at "zz"
  refine cl_is_number_of ⟨w, 60, rfl, rfl, hw, fun H1 S1 => ?_⟩
  exact q _ S1

theorem rd_row_in {Z : Adr} (T : Top Z) {a0 : V} {H : Hp} {Q : VK} {E : XK} (h : q_row_in Z a0 H Q E) : t_row_in Z (fun cls d _ H => E cls d H) ⟨fun _ H' => Q .non H', Q, fun _ _ => False, fun _ _ => False⟩ [some a0, none, none, none] H := by
  unfold t_row_in
  obtain ⟨l, ws, rfl, hl, h1, hw1, hw, qs, qn⟩ := h
  have big : 1000000 ≤ sizeLine := by decide
  have DA : DctK Z.K Z.w Z.a_ALONE ALON := T.D_ALONE
  have DN : DctK Z.K Z.w Z.a_NUMBERED NUMB := T.D_NUMBERED
  obtain ⟨w, r, rfl⟩ : ∃ w r, ws = w :: r := by cases ws with | nil => simp at h1 | cons w r => exact ⟨w, r, rfl⟩
  unfold SqS at hl
  walk_at "zz"
  refine s_ixN (m := 0) (v := .str w) (SqL.of hl) rfl ?_
  walk_at "zz"
  refine s_cut (fun σ' H' => H' = H ∧ σ' = [some (.ref l), some (.str w), some (.int (if w = "push" then 100 else 60)), none]) ?_ ?_
  · walk_at "zz"
    refine s_ifd (fun c => ?_) (fun c => ?_)
    · walk_at "zz"
      rw [if_pos c]
      exact ⟨rfl, rfl⟩
    · walk_at "zz"
      rw [if_neg c]
      exact ⟨rfl, rfl⟩
  rintro σ' H' ⟨rfl, rfl⟩
  have kd : ∀ (Q2 : VK), Q2 (optV (kindW w)) H' → True := fun _ _ => trivial
  cases r with
  | nil =>
    have e0 : rwC [w] = if w ∈ ALON.map (·.1) then some [(lkS ALON w).getD 0, 0] else match kindW w with
      | some k => if 8 ≤ k then some [10, k] else none
      | none => none := by
      unfold rwC
      rw [if_neg (by simp)]
      simp only [List.length_singleton, List.headD_cons, true_and]
      all_goals (cases kindW w <;> rfl)
    rw [e0] at qs qn
    walk_at "zz"
    refine s_ifdf (by simp) ?_
    walk_at "zz"
    refine s_ifdt (by simp) ?_
    walk_at "zz"
    refine s_inK DA ?_
    walk_at "zz"
    refine s_ifd (fun c => ?_) (fun c => ?_)
    · obtain ⟨v, mv⟩ := mem_keys c
      rw [if_pos c, lkS_alon mv] at qs
      walk_at "zz"
      refine s_ixK DA mv ?_
      walk_at "zz"
      intro t ht
      exact qs _ rfl t _ (same_new ht) upd_same
    · rw [if_neg c] at qs qn
      walk_at "zz"
      refine cl_kind_of ⟨w, rfl, fun H1 S1 => ?_⟩
      cases ek : kindW w with
      | none =>
        rw [ek] at qs qn
        rw [show optV none = V.non from rfl]
        walk_at "zz"
        refine s_ifdt (by simp) ?_
        walk_at "zz"
        exact qn rfl _ S1
      | some k =>
        rw [ek] at qs qn
        rw [show optV (some k) = V.int k from rfl]
        replace qs : ∀ x, (if 8 ≤ k then some [10, k] else none) = some x → ∀ t H'', Same H' H'' → H'' t = some (.tup (x.map V.int)) → Q (.ref t) H'' := qs
        replace qn : (if 8 ≤ k then some [10, k] else none) = none → ∀ H'', Same H' H'' → Q .non H'' := qn
        walk_at "zz"
        refine s_ifdt (by simp) ?_
        walk_at "zz"
        refine s_ifd (fun c8 => ?_) (fun c8 => ?_)
        · rw [if_pos c8] at qs
          walk_at "zz"
          intro t ht
          exact qs _ rfl t _ (S1.trans (same_new ht)) upd_same
        · rw [if_neg c8] at qn
          walk_at "zz"
          exact qn rfl _ S1
  | cons v r =>
    have n1 : ¬ ((((w :: v :: r).map V.str).length : Nat) : Int) = 1 := by simp only [List.length_map, List.length_cons]; omega
    have rest : (rwC (w :: v :: r) = none) → ∀ (N : Bool → Hp → Prop), True := fun _ _ => trivial
    by_cases c2 : r = []
    · subst c2
      have hv := hw v (by simp)
      have eT : w ∈ NUMB.map (·.1) ∧ isNumM v (if w = "push" then 100 else 60) = true → rwC [w, v] = some [(lkS NUMB w).getD 0, numT v] := fun c => by
        unfold rwC
        rw [if_pos ⟨rfl, c.1, c.2⟩]
        rfl
      have eF : ¬ (w ∈ NUMB.map (·.1) ∧ isNumM v (if w = "push" then 100 else 60) = true) → rwC [w, v] = none := fun c => by
        unfold rwC
        rw [if_neg (fun z => c ⟨z.2.1, z.2.2⟩), if_neg (by simp)]
        cases kindW ([w, v].headD "") <;> simp
      walk_at "zz"
      refine s_ifdt (by simp) ?_
      walk_at "zz"
      refine s_inK DN ?_
      walk_at "zz"
      refine s_ifd (fun c => ?_) (fun c => ?_)
      · walk_at "zz"
        refine s_ixN (m := 1) (v := .str v) (SqL.of hl) rfl ?_
        walk_at "zz"
        refine cl_is_number_of ⟨v, _, rfl, rfl, by omega, fun H1 S1 => ?_⟩
        obtain ⟨o, mo⟩ := mem_keys c
        cases ei : isNumM v (if w = "push" then 100 else 60) with
        | true =>
          rw [eT ⟨c, ei⟩, lkS_numb mo] at qs
          have ni := isNumM_int ei (by split <;> decide)
          walk_at "zz"
          refine s_ixK DN mo ?_
          walk_at "zz"
          refine s_ixN (m := 1) (v := .str v) (SqL.of (S1 _ _ hl)) rfl ?_
          walk_at "zz"
          refine s_intS ni.1 ni.2 ?_
          walk_at "zz"
          intro t ht
          exact qs _ rfl t _ (S1.trans (same_new ht)) upd_same
        | false =>
          rw [eF (fun z => by rw [ei] at z; exact absurd z.2 (by simp))] at qn
          walk_at "zz"
          refine s_ifdf n1 ?_
          walk_at "zz"
          refine cl_kind_of ⟨w, rfl, fun H2 S2 => ?_⟩
          walk_at "zz"
          refine s_ifdf n1 ?_
          walk_at "zz"
          exact qn rfl _ (S1.trans S2)
      · rw [eF (fun z => c z.1)] at qn
        walk_at "zz"
        refine s_ifdf n1 ?_
        walk_at "zz"
        refine cl_kind_of ⟨w, rfl, fun H2 S2 => ?_⟩
        walk_at "zz"
        refine s_ifdf n1 ?_
        walk_at "zz"
        exact qn rfl _ S2
    · obtain ⟨v2, r, rfl⟩ : ∃ v2 r2, r = v2 :: r2 := by cases r with | nil => exact absurd rfl c2 | cons a b => exact ⟨a, b, rfl⟩
      have e0 : rwC (w :: v :: v2 :: r) = none := by
        unfold rwC
        rw [if_neg (by simp), if_neg (by simp)]
        cases kindW ((w :: v :: v2 :: r).headD "") <;> simp
      rw [e0] at qn
      walk_at "zz"
      refine s_ifdf (by simp only [List.length_map, List.length_cons]; omega) ?_
      walk_at "zz"
      refine s_ifdf n1 ?_
      walk_at "zz"
      refine cl_kind_of ⟨w, rfl, fun H2 S2 => ?_⟩
      walk_at "zz"
      refine s_ifdf n1 ?_
      walk_at "zz"
      exact qn rfl _ S2

theorem rd_head_in {Z : Adr} (T : Top Z) {a0 : V} {H : Hp} {Q : VK} {E : XK} (h : q_head_in Z a0 H Q E) : t_head_in Z (fun cls d _ H => E cls d H) ⟨fun _ H' => Q .non H', Q, fun _ _ => False, fun _ _ => False⟩ [some a0, none, none] H := by
  unfold t_head_in
  obtain ⟨l, ws, rfl, hl, h1, hw1, hw, qs, qn⟩ := h
  have big : 1000000 ≤ sizeLine := by decide
  obtain ⟨w, r, rfl⟩ : ∃ w r, ws = w :: r := by cases ws with | nil => simp at h1 | cons w r => exact ⟨w, r, rfl⟩
  unfold SqS at hl
  unfold hdC at qs qn
  replace qs : ∀ x, (if w = "fun" ∧ (w :: r).length = 4 ∧ r.all isNum = true then some (r.map numT) else none) = some x → ∀ t H'', Same H H'' → H'' t = some (.tup (x.map V.int)) → Q (.ref t) H'' := qs
  replace qn : (if w = "fun" ∧ (w :: r).length = 4 ∧ r.all isNum = true then some (r.map numT) else none) = none → ∀ H'', Same H H'' → Q .non H'' := qn
  walk_at "zz"
  refine s_ixN (m := 0) (v := .str w) (SqL.of hl) rfl ?_
  walk_at "zz"
  by_cases cf : w = "fun"
  rotate_left
  · refine s_nff cf ?_
    walk_at "zz"
    rw [if_neg fun z => cf z.1] at qn
    exact qn rfl _ (Same.refl _)
  refine s_nft cf ?_
  walk_at "zz"
  rw [List.length_map]
  by_cases c4 : (w :: r).length = 4
  rotate_left
  · refine s_nff (by omega) ?_
    walk_at "zz"
    rw [if_neg fun z => c4 z.2.1] at qn
    exact qn rfl _ (Same.refl _)
  refine s_nft (by omega) ?_
  walk_at "zz"
  intro c1 hc1
  have ec : cutV ((w :: r).map V.str) (some 1) none = r.map V.str := cut_tail w r
  rw [ec]
  generalize hU : L2.upd H c1 _ = H1
  have S1 : _root_.Z.Same H H1 := hU ▸ _root_.Z.same_new hc1
  have hk1 := (congrFun hU c1).symm
  rw [L2.upd_same] at hk1
  clear hU
  walk_at "zz"
  refine lc_lst (r.map V.str) (fun D i H' => Same H1 H' ∧ H' D = some (.lst (((r.take i).map isNum).map V.bl))) (fun D hD => ⟨same_new hD, by rw [List.take_zero]; exact upd_same⟩) (fun D i H' hD hi z => SqL.of (z.1 _ _ hk1)) ?_ ?_
  · rintro D i y H2 hD hy ⟨S2, h2⟩
    rw [List.getElem?_map] at hy
    obtain ⟨v, ev, rfl⟩ := Option.map_eq_some_iff.mp hy
    have hi := (List.getElem?_eq_some_iff.mp ev).1
    have hr : r.length = 3 := by rw [List.length_cons] at c4; omega
    walk_at "zz"
    refine cl_is_number_word ⟨v, rfl, by have := hw v (List.mem_cons_of_mem _ (List.mem_of_getElem? ev)); omega, fun H3 S3 => ?_⟩
    refine c_acc (S3 _ _ h2) (by simp only [List.length_map, List.length_take]; omega) fun H4 B4 h4 => ⟨same_own (S2.trans S3) B4 hD, ?_⟩
    rw [h4, List.take_succ_eq_append_getElem hi, (List.getElem?_eq_some_iff.mp ev).2]
    simp
  rintro D H2 hD ⟨S2, h2⟩
  rw [List.length_map, List.take_length] at h2
  walk_at "zz"
  refine s_all (SqL.of h2) ?_
  have eall : (r.map isNum).all id = r.all isNum := by rw [List.all_map]; rfl
  rw [eall]
  have S02 := S1.trans S2
  cases ea : r.all isNum with
  | false =>
    rw [if_neg fun z => by rw [ea] at z; exact absurd z.2.2 (by simp)] at qn
    walk_at "zz"
    exact qn rfl _ S02
  | true =>
    rw [if_pos ⟨cf, c4, ea⟩] at qs
    walk_at "zz"
    intro c3 hc3
    rw [ec]
    generalize hU : L2.upd H2 c3 _ = H3
    have S3 : _root_.Z.Same H2 H3 := hU ▸ _root_.Z.same_new hc3
    have hk3 := (congrFun hU c3).symm
    rw [L2.upd_same] at hk3
    clear hU
    walk_at "zz"
    refine lc_lst (r.map V.str) (fun D i H' => Same H3 H' ∧ H' D = some (.lst (((r.take i).map numT).map V.int))) (fun D hD => ⟨same_new hD, by rw [List.take_zero]; exact upd_same⟩) (fun D i H' hD hi z => SqL.of (z.1 _ _ hk3)) ?_ ?_
    · rintro D i y H4 hD hy ⟨S4, h4⟩
      rw [List.getElem?_map] at hy
      obtain ⟨v, ev, rfl⟩ := Option.map_eq_some_iff.mp hy
      have hi := (List.getElem?_eq_some_iff.mp ev).1
      have hr : r.length = 3 := by rw [List.length_cons] at c4; omega
      have ni := num_int (List.all_eq_true.mp ea v (List.mem_of_getElem? ev))
      walk_at "zz"
      refine s_intS ni.1 ni.2 ?_
      refine c_acc h4 (by simp only [List.length_map, List.length_take]; omega) fun H5 B5 h5 => ⟨same_own S4 B5 hD, ?_⟩
      rw [h5, List.take_succ_eq_append_getElem hi, (List.getElem?_eq_some_iff.mp ev).2]
      simp
    rintro D H4 hD ⟨S4, h4⟩
    rw [List.length_map, List.take_length] at h4
    walk_at "zz"
    intro t ht
    exact qs _ rfl t _ ((S02.trans S3).trans (S4.trans (same_new ht))) upd_same

theorem rd_read_code {Z : Adr} (T : Top Z) {a0 : V} {H : Hp} {Q : VK} {E : XK} (h : q_read_code Z a0 H Q E) : t_read_code Z (fun cls d _ H => E cls d H) ⟨fun _ H' => Q .non H', Q, fun _ _ => False, fun _ _ => False⟩ [some a0, none, none, none, none, none, none, none] H := by
  unfold t_read_code
  have h2 : (NoStr H a0 ∧ ∀ d H', Same H H' → XtAt H' d 0 → E (.ref Z.c_NoText) (some d) H') ∨ ∃ t, a0 = .str t ∧ Fits t ∧ (∀ i, readC (linesC t) 0 [] [] = .error i → ∀ d H', Same H H' → XtAt H' d i → E (.ref Z.c_NoText) (some d) H') ∧ (∀ hs rs, readC (linesC t) 0 [] [] = .ok (hs, rs) → (CodeOK hs rs → ∀ l H', Same H H' → H l = none → H' l = some (.lst ((codeL hs rs).map V.int)) → Q (.ref l) H') ∧ (¬ CodeOK hs rs → ∀ H', Same H H' → E (.ref Z.c_NoCode) none H')) := by
    rcases h with ⟨t, hs, rs, e, f, rd, C, q⟩ | ⟨i, (⟨n, e⟩ | ⟨t, e, f, rd⟩), q⟩ | ⟨⟨t, hs, rs, e, f, rd, nC⟩, q⟩
    · refine .inr ⟨t, e, f, fun i z => ?_, fun hs' rs' z => ?_⟩
      · rw [rd] at z; cases z
      · rw [rd] at z; cases z; exact ⟨fun _ => q, fun n => absurd C n⟩
    · subst e; exact .inl ⟨n, q⟩
    · refine .inr ⟨t, e, f, fun i' z => ?_, fun hs' rs' z => ?_⟩
      · rw [rd] at z; cases z; exact q
      · rw [rd] at z; cases z
    · refine .inr ⟨t, e, f, fun i' z => ?_, fun hs' rs' z => ?_⟩
      · rw [rd] at z; cases z
      · rw [rd] at z; cases z; exact ⟨fun C => absurd C nC, fun _ => q⟩
  clear h
  rcases h2 with ⟨n, q⟩ | ⟨t, rfl, ⟨ht, hln⟩, qe, qo⟩
  · obtain ⟨tt, ty, k1⟩ := n.ty (K := Z.K)
    walk_at "zz"
    refine s_isi (bb := false) (.ty "str") ty (kit_ty k1) ?_
    walk_at "zz"
    refine s_raiseO ?_
    walk_at "zz"
    exact raise_NoText (Z := Z) (W := fun cls d _ H' => E cls d H') (σ := []) (k := 0) fun d' H' S x => q d' H' S x
  obtain ⟨R, rd⟩ : ∃ R, readC (linesC t) 0 [] [] = R := ⟨_, rfl⟩
  have big : 1000000 ≤ sizeLine := by decide
  walk_at "zz"
  refine s_isi (bb := true) (.ty "str") (.base (.str _)) (kit_ty (by decide +kernel)) ?_
  walk_at "zz"
  intro lh hlh
  have hlhH := hlh
  generalize hU : L2.upd H lh _ = H1
  have S1 : _root_.Z.Same H H1 := hU ▸ _root_.Z.same_new hlh
  have hk1 := (congrFun hU lh).symm
  rw [L2.upd_same] at hk1
  clear hU
  walk_at "zz"
  intro lr hlr
  have nhr : lh ≠ lr := ne_of_none hk1 hlr
  generalize hU : L2.upd H1 lr _ = H2
  have S2 : _root_.Z.Same H1 H2 := hU ▸ _root_.Z.same_new hlr
  have hk2 := (congrFun hU lr).symm
  rw [L2.upd_same] at hk2
  clear hU
  walk_at "zz"
  refine s_enum ?_
  walk_at "zz"
  refine ⟨t, "\n", rfl, rfl, by decide +kernel, by omega, fun ls hls => ?_⟩
  have esp : Txt.split t "\n" = (splitC 10 t.cps.toList).map ofL := by rw [nl_is]; exact split_eq t (by decide)
  rw [esp]
  have spl := splitC_len 10 t.cps.toList
  have nhls : lh ≠ ls := ne_of_none (S2 _ _ hk1) hls
  have nrls : lr ≠ ls := ne_of_none hk2 hls
  generalize hU : L2.upd H2 ls _ = H3
  have S3 : _root_.Z.Same H2 H3 := hU ▸ _root_.Z.same_new hls
  have hk3 := (congrFun hU ls).symm
  rw [L2.upd_same] at hk3
  clear hU
  have hk13 := S3 _ _ (S2 _ _ hk1)
  have hk23 := S3 _ _ hk2
  walk_at "zz"
  refine s_zenum (k := true) (SqL.of hk3) ?_
  refine loop_enum (((splitC 10 t.cps.toList).map ofL).map V.str) (fun i σ' H' => ∃ (ths trs : List (List Int)) (vh vr : List V) (x3 x4 x5 x6 x7 : Option V), Same H H' ∧ H' ls = some (.lst (((splitC 10 t.cps.toList).map ofL).map V.str)) ∧ H' lh = some (.lst vh) ∧ TupsAt H' ths vh ∧ H' lr = some (.lst vr) ∧ TupsAt H' trs vr ∧ ths.length ≤ i ∧ trs.length ≤ i ∧ readC ((linesC t).drop i) i ths trs = R ∧
      σ' = [some (.str t), some (.ref lh), some (.ref lr), x3, x4, x5, x6, x7])
    ⟨[], [], [], [], _, _, _, _, _, (S1.trans S2).trans S3, hk3, hk13, Row.nil, hk23, Row.nil, Nat.le_refl _, Nat.le_refl _, rd, rfl⟩ (fun i σ' H' hi ⟨_, _, _, _, _, _, _, _, _, _, z, _⟩ => SqL.of z) ?_ ?_
  · rintro i v σ' H4 T0 hv ⟨ths, trs, vh, vr, x3, x4, x5, x6, x7, S4, hls4, hh4, th4, hr4, tr4, l1, l2, rd4, rfl⟩ hT0
    rw [List.getElem?_map] at hv
    obtain ⟨ln, eln, rfl⟩ := Option.map_eq_some_iff.mp hv
    have hi0 := (List.getElem?_eq_some_iff.mp eln).1
    have hi : i < (linesC t).length := by unfold linesC; rw [List.length_map]; exact hi0
    have eli : (linesC t)[i] = wordsC ln := by
      have : (linesC t)[i]? = some (wordsC ln) := by unfold linesC; rw [List.getElem?_map, eln]; rfl
      exact (List.getElem?_eq_some_iff.mp this).2
    have lnl : ln.length ≤ t.length := by
      rw [List.getElem?_map] at eln
      obtain ⟨p, ep, rfl⟩ := Option.map_eq_some_iff.mp eln
      have := spl.2 p (List.mem_of_getElem? ep)
      rw [len_ls, len_ls]
      exact this
    have ii : i ≤ 900001 := by
      have : ((splitC 10 t.cps.toList).map ofL).length ≤ t.cps.toList.length + 1 := by rw [List.length_map]; exact spl.1
      rw [← len_ls] at this
      omega
    rw [List.drop_eq_getElem_cons hi, eli, readC] at rd4
    refine s_gun_t (SqT.of upd_same) rfl ?_
    have T4 := same_new (o := .tup [.int (i : Nat), .str ln]) hT0
    have B4 : Same H (upd H4 T0 (.tup [.int (i : Nat), .str ln])) := S4.trans T4
    have hls5 := T4 _ _ hls4
    have hh5 := T4 _ _ hh4
    have hr5 := T4 _ _ hr4
    have th5 := th4.mono (TupS.of T4)
    have tr5 := tr4.mono (TupS.of T4)
    generalize upd H4 T0 (.tup [.int (i : Nat), .str ln]) = H5 at *
    walk_at "zz"
    refine ⟨ln, " ", rfl, rfl, by decide +kernel, by omega, fun lw hlw => ?_⟩
    have ew : Txt.split ln " " = wordsC ln := by rw [bl_is]; exact split_eq ln (by decide)
    rw [ew]
    have spw := splitC_len 32 ln.cps.toList
    have w1 : 1 ≤ (wordsC ln).length := by
      obtain ⟨p, ps, e⟩ := splitC_ne 32 ln.cps.toList
      unfold wordsC
      rw [e, List.length_map, List.length_cons]; omega
    have w2 : (wordsC ln).length ≤ 1000000 := by
      unfold wordsC
      rw [List.length_map]
      have := spw.1
      rw [← len_ls] at this
      omega
    have w3 : ∀ w ∈ wordsC ln, w.length ≤ 1000000 := fun w hw => by
      obtain ⟨p, hp, rfl⟩ := List.mem_map.mp hw
      have := spw.2 p hp
      rw [len_ls]
      rw [← len_ls] at this
      show p.length ≤ _
      omega
    have nhw : lh ≠ lw := ne_of_none hh5 hlw
    have nrw : lr ≠ lw := ne_of_none hr5 hlw
    generalize hU : L2.upd H5 lw _ = H6
    have S6 : _root_.Z.Same H5 H6 := hU ▸ _root_.Z.same_new hlw
    have hkw := (congrFun hU lw).symm
    rw [L2.upd_same] at hkw
    clear hU
    have hls6 := S6 _ _ hls5
    have hh6 := S6 _ _ hh5
    have hr6 := S6 _ _ hr5
    have th6 := th5.mono (TupS.of S6)
    have tr6 := tr5.mono (TupS.of S6)
    have S06 := B4.trans S6
    have fr : H lh = none := hlhH
    have frr : H lr = none := S1.free hlr
    have lens : vh.length = ths.length ∧ vr.length = trs.length := ⟨th4.len, tr4.len⟩
    -- the two ways on
    have addH : ∀ (h : List Int) (t' : Addr) (H8 : Hp) (N0 : VK), Same H6 H8 → H8 t' = some (.tup (h.map V.int)) → readC ((linesC t).drop (i + 1)) (i + 1) (ths ++ [h]) trs = R →
        (∀ H9, (∃ (ths trs : List (List Int)) (vh vr : List V), Same H H9 ∧ H9 ls = some (.lst (((splitC 10 t.cps.toList).map ofL).map V.str)) ∧ H9 lh = some (.lst vh) ∧ TupsAt H9 ths vh ∧ H9 lr = some (.lst vr) ∧ TupsAt H9 trs vr ∧ ths.length ≤ i + 1 ∧ trs.length ≤ i + 1 ∧ readC ((linesC t).drop (i + 1)) (i + 1) ths trs = R) → N0 .non H9) → rAppend (.ref lh) [.ref t'] H8 N0 := fun h t' H8 N0 S8 ht' rdn fin => by
      refine c_append (S8 _ _ hh6) (by omega) fun H9 B9 h9 => fin H9 ?_
      have T9 := TupS.butL B9 (S8 _ _ hh6)
      refine ⟨ths ++ [h], trs, _, vr, same_own (S06.trans S8) B9 fr, B9.rd nhls.symm (S8 _ _ hls6), h9, Row.app ((th6.mono (TupS.of S8)).mono T9) ⟨t', rfl, T9 _ _ ht'⟩, B9.rd nhr.symm (S8 _ _ hr6), (tr6.mono (TupS.of S8)).mono T9, by rw [List.length_append, List.length_singleton]; omega, by omega, rdn⟩
    have addR : ∀ (x : List Int) (t' : Addr) (H8 : Hp) (N0 : VK), Same H6 H8 → H8 t' = some (.tup (x.map V.int)) → readC ((linesC t).drop (i + 1)) (i + 1) ths (trs ++ [x]) = R →
        (∀ H9, (∃ (ths trs : List (List Int)) (vh vr : List V), Same H H9 ∧ H9 ls = some (.lst (((splitC 10 t.cps.toList).map ofL).map V.str)) ∧ H9 lh = some (.lst vh) ∧ TupsAt H9 ths vh ∧ H9 lr = some (.lst vr) ∧ TupsAt H9 trs vr ∧ ths.length ≤ i + 1 ∧ trs.length ≤ i + 1 ∧ readC ((linesC t).drop (i + 1)) (i + 1) ths trs = R) → N0 .non H9) → rAppend (.ref lr) [.ref t'] H8 N0 := fun x t' H8 N0 S8 ht' rdn fin => by
      refine c_append (S8 _ _ hr6) (by omega) fun H9 B9 h9 => fin H9 ?_
      have T9 := TupS.butL B9 (S8 _ _ hr6)
      refine ⟨ths, trs ++ [x], vh, _, same_own (S06.trans S8) B9 frr, B9.rd nrls.symm (S8 _ _ hls6), B9.rd nhr (S8 _ _ hh6), (th6.mono (TupS.of S8)).mono T9, h9, Row.app ((tr6.mono (TupS.of S8)).mono T9) ⟨t', rfl, T9 _ _ ht'⟩, by omega, by rw [List.length_append, List.length_singleton]; omega, rdn⟩
    walk_at "zz"
    refine cl_head_in ⟨lw, wordsC ln, rfl, hkw, w1, w2, w3, fun h eh th' H7 S7 ht' => ?_, fun eh H7 S7 => ?_⟩
    · rw [eh] at rd4
      replace rd4 : (if trs = [] then readC ((linesC t).drop (i + 1)) (i + 1) (ths ++ [h]) trs else match rwC (wordsC ln) with
        | some x => readC ((linesC t).drop (i + 1)) (i + 1) ths (trs ++ [x])
        | none => .error i) = R := rd4
      by_cases ce : trs = []
      · rw [if_pos ce] at rd4
        have ve : vr = [] := List.eq_nil_of_length_eq_zero (by rw [lens.2, ce]; rfl)
        walk_at "zz"
        refine cl_row_in ⟨lw, wordsC ln, rfl, S7 _ _ hkw, w1, w2, w3, fun x ex tr' H8 S8 htr => ?_, fun ex H8 S8 => ?_⟩
        · have S68 := S7.trans S8
          have ht8 := S8 _ _ ht'
          have hr8 := S68 _ _ hr6
          walk_at "zz"
          intro c9 hc9
          have S9 := same_new (o := .lst []) hc9
          rw [ve] at hr8
          refine s_eq_d (d := .list []) (e := .list []) (.lst (SqL.of (S9 _ _ hr8)) .nil) (.lst (SqL.of upd_same) .nil) (by rfl) (by rfl) ?_
          rw [show PyData.eqv (.list []) (.list []) = true by rfl]
          walk_at "zz"
          refine addH h th' _ _ (S68.trans S9) (S9 _ _ ht8) rd4 fun H9 ⟨a1, a2, a3, a4, a5⟩ => ?_
          walk_at "zz"
          exact ⟨a1, a2, a3, a4, _, _, _, _, _, a5.1, a5.2.1, a5.2.2.1, a5.2.2.2.1, a5.2.2.2.2.1, a5.2.2.2.2.2.1, a5.2.2.2.2.2.2.1, a5.2.2.2.2.2.2.2.1, a5.2.2.2.2.2.2.2.2, rfl⟩
        · have S68 := S7.trans S8
          have ht8 := S8 _ _ ht'
          have hr8 := S68 _ _ hr6
          walk_at "zz"
          intro c9 hc9
          have S9 := same_new (o := .lst []) hc9
          rw [ve] at hr8
          refine s_eq_d (d := .list []) (e := .list []) (.lst (SqL.of (S9 _ _ hr8)) .nil) (.lst (SqL.of upd_same) .nil) (by rfl) (by rfl) ?_
          rw [show PyData.eqv (.list []) (.list []) = true by rfl]
          walk_at "zz"
          refine addH h th' _ _ (S68.trans S9) (S9 _ _ ht8) rd4 fun H9 ⟨a1, a2, a3, a4, a5⟩ => ?_
          walk_at "zz"
          exact ⟨a1, a2, a3, a4, _, _, _, _, _, a5.1, a5.2.1, a5.2.2.1, a5.2.2.2.1, a5.2.2.2.2.1, a5.2.2.2.2.2.1, a5.2.2.2.2.2.2.1, a5.2.2.2.2.2.2.2.1, a5.2.2.2.2.2.2.2.2, rfl⟩
      · rw [if_neg ce] at rd4
        walk_at "zz"
        refine cl_row_in ⟨lw, wordsC ln, rfl, S7 _ _ hkw, w1, w2, w3, fun x ex tr' H8 S8 htr => ?_, fun ex H8 S8 => ?_⟩
        · have S68 := S7.trans S8
          rw [ex] at rd4
          have ht8 := S8 _ _ ht'
          have hr8 := S68 _ _ hr6
          have nv : vr.length ≠ 0 := by rw [lens.2]; exact fun z => ce (List.eq_nil_of_length_eq_zero z)
          walk_at "zz"
          intro c9 hc9
          have S9 := same_new (o := .lst []) hc9
          refine s_eq_len (S9 _ _ hr8) upd_same nv ?_
          walk_at "zz"
          refine addR x tr' _ _ (S68.trans S9) (S9 _ _ htr) rd4 fun H9 ⟨a1, a2, a3, a4, a5⟩ => ?_
          walk_at "zz"
          exact ⟨a1, a2, a3, a4, _, _, _, _, _, a5.1, a5.2.1, a5.2.2.1, a5.2.2.2.1, a5.2.2.2.2.1, a5.2.2.2.2.2.1, a5.2.2.2.2.2.2.1, a5.2.2.2.2.2.2.2.1, a5.2.2.2.2.2.2.2.2, rfl⟩
        · have S68 := S7.trans S8
          rw [ex] at rd4
          have nv : vr.length ≠ 0 := by rw [lens.2]; exact fun z => ce (List.eq_nil_of_length_eq_zero z)
          have hr8 := S68 _ _ hr6
          walk_at "zz"
          intro c9 hc9
          have S9 := same_new (o := .lst []) hc9
          refine s_eq_len (S9 _ _ hr8) upd_same nv ?_
          walk_at "zz"
          refine s_raiseO ?_
          walk_at "zz"
          exact raise_NoText (Z := Z) (W := fun cls d _ H' => E cls d H') (σ := []) fun d' H' S x => qe i (rd.trans rd4.symm) d' H' ((S06.trans (S68.trans S9)).trans S) x
    · rw [eh] at rd4
      replace rd4 : (match rwC (wordsC ln) with
        | some x => readC ((linesC t).drop (i + 1)) (i + 1) ths (trs ++ [x])
        | none => .error i) = R := rd4
      walk_at "zz"
      refine cl_row_in ⟨lw, wordsC ln, rfl, S7 _ _ hkw, w1, w2, w3, fun x ex tr' H8 S8 htr => ?_, fun ex H8 S8 => ?_⟩
      · have S68 := S7.trans S8
        rw [ex] at rd4
        walk_at "zz"
        refine addR x tr' _ _ S68 htr rd4 fun H9 ⟨a1, a2, a3, a4, a5⟩ => ?_
        walk_at "zz"
        exact ⟨a1, a2, a3, a4, _, _, _, _, _, a5.1, a5.2.1, a5.2.2.1, a5.2.2.2.1, a5.2.2.2.2.1, a5.2.2.2.2.2.1, a5.2.2.2.2.2.2.1, a5.2.2.2.2.2.2.2.1, a5.2.2.2.2.2.2.2.2, rfl⟩
      · have S68 := S7.trans S8
        rw [ex] at rd4
        walk_at "zz"
        refine s_raiseO ?_
        walk_at "zz"
        exact raise_NoText (Z := Z) (W := fun cls d _ H' => E cls d H') (σ := []) fun d' H' S x => qe i (rd.trans rd4.symm) d' H' ((S06.trans S68).trans S) x
  rintro σ' H4 ⟨ths, trs, vh, vr, x3, x4, x5, x6, x7, S4, hls4, hh4, th4, hr4, tr4, l1, l2, rd4, rfl⟩
  have el : (linesC t).drop (((splitC 10 t.cps.toList).map ofL).map V.str).length = [] := by
    rw [List.length_map]
    exact List.drop_of_length_le (by unfold linesC; rw [List.length_map]; exact Nat.le_refl _)
  rw [el] at rd4
  have e2 : readC (linesC t) 0 [] [] = .ok (ths, trs) := rd.trans rd4.symm
  obtain ⟨qo, qn⟩ := qo ths trs e2
  have rl := readC_len e2 (fun _ h => by cases h) (fun _ h => by cases h)
  rw [List.length_nil] at rl
  walk_at "zz"
  refine cl_code_of ⟨_, _, ⟨lh, vh, rfl, .inl (SqL.of hh4), th4.imp fun _ _ _ z => z.seq⟩, ⟨lr, vr, rfl, .inl (SqL.of hr4), tr4.imp fun _ _ _ z => z.seq⟩, rl.1, rl.2.1, by omega, by omega, fun C l5 H5 S5 hl50 hl5 => ?_, fun nC H5 S5 => ?_⟩
  · exact qo C l5 H5 (S4.trans S5) (S4.free hl50) hl5
  · exact qn nC H5 (S4.trans S5)

theorem rd_Lpen {Z : Adr} (T : Top Z) {a0 a1 : V} {H : Hp} {Q : VK} {E : XK} (h : q_Lpen Z a0 a1 H Q E) : t_Lpen Z (fun cls d _ H => E cls d H) ⟨fun _ H' => Q .non H', Q, fun _ _ => False, fun _ _ => False⟩ [some a0, some a1, none] H := by
  unfold t_Lpen
  obtain ⟨sa, ns, k, rfl, rfl, hk, hS, q⟩ := h
  have hsq := hS.sq
  have fin : ∀ {p : Addr} {a b : Int}, H p = none → 0 ≤ a → 0 ≤ b → Q (.ref p) (upd H p (.lst [.int a, .int b, .int 0])) := fun hp ha hb => q _ _ (same_new hp) hp ⟨_, _, _, ha, hb, ⟨Int.le_refl _, Int.le_refl _⟩, upd_same⟩
  walk_at "zz"
  refine s_cut (fun σ' H' => H' = H ∧ ∃ c : Int, σ' = [some (.ref sa), some (.int k), some (.int c)]) ?_ ?_
  · walk_at "zz"
    rw [List.length_map]
    refine s_ifd (fun c => ?_) (fun c => ?_)
    · walk_at "zz"
      obtain ⟨w, hw, ew⟩ := at_ints ns (i := k) hk c
      refine s_ix_l hsq ew ?_
      exact ⟨rfl, _, rfl⟩
    · walk_at "zz"
      rw [List.length_map]
      refine s_ifd (fun c => ?_) (fun c => ?_)
      · walk_at "zz"
        rw [List.length_map]
        refine s_modp c ?_
        walk_at "zz"
        obtain ⟨w, hw, ew⟩ := at_ints ns (i := k % ns.length) (Int.emod_nonneg _ (by omega)) (Int.emod_lt_of_pos _ c)
        refine s_ix_l hsq ew ?_
        walk_at "zz"
        exact ⟨rfl, _, rfl⟩
      · walk_at "zz"
        exact ⟨rfl, _, rfl⟩
  rintro σ' H' ⟨rfl, c, rfl⟩
  walk_at "zz"
  refine s_ifd (fun d => ?_) (fun d => ?_)
  · walk_at "zz"
    intro p hp
    exact fin hp (by omega) (Int.emod_nonneg _ (by decide))
  · walk_at "zz"
    intro p hp
    exact fin hp (Int.le_refl _) (Int.emod_nonneg _ (by decide))

theorem rd_Ldraw {Z : Adr} (T : Top Z) {a0 a1 : V} {H : Hp} {Q : VK} {E : XK} (h : q_Ldraw Z a0 a1 H Q E) : t_Ldraw Z (fun cls d _ H => E cls d H) ⟨fun _ H' => Q .non H', Q, fun _ _ => False, fun _ _ => False⟩ [some a0, some a1, none, none] H := by
  unfold t_Ldraw
  obtain ⟨p, m, n, rfl, rfl, hm, hm2, hn, ⟨x, y, z, hx, hy, ⟨hz, hzn⟩, hp⟩, q⟩ := h
  walk_at "zz"
  refine s_ix_l (SqL.of hp) (v := .int z) rfl ?_
  walk_at "zz"
  refine c_setL 2 [.int x, .int y, .int (z + 1)] hp rfl rfl fun H1 B1 hp1 => ?_
  walk_at "zz"
  refine s_ix_l (SqL.of hp1) (v := .int x) rfl ?_
  walk_at "zz"
  refine s_ifd (fun c => ?_) (fun c => ?_)
  · walk_at "zz"
    refine s_ix_l (SqL.of hp1) (v := .int x) rfl ?_
    walk_at "zz"
    refine s_ix_l (SqL.of hp1) (v := .int x) rfl ?_
    walk_at "zz"
    refine s_fdvq ⟨hm, hm2⟩ ?_
    walk_at "zz"
    refine c_setL 0 [.int (x / m), .int y, .int (z + 1)] hp1 rfl rfl fun H2 B2 hp2 => ?_
    walk_at "zz"
    exact q _ _ (Int.emod_nonneg _ (by omega)) (Int.emod_lt_of_pos _ hm) ⟨_, _, _, Int.ediv_nonneg hx (by omega), hy, ⟨by omega, by omega⟩, hp2⟩ (B1.trans B2)
  · walk_at "zz"
    refine s_ix_l (SqL.of hp1) (v := .int y) rfl ?_
    walk_at "zz"
    refine s_ix_l (SqL.of hp1) (v := .int (z + 1)) rfl ?_
    walk_at "zz"
    refine s_ix_l (SqL.of hp1) (v := .int (z + 1)) rfl ?_
    walk_at "zz"
    have b1 := Int.emod_nonneg ((y + 48271 * (z + 1) + 11) % 2147483629 * ((y + 48271 * (z + 1) + 11) % 2147483629)) (show (2147483587 : Int) ≠ 0 by decide)
    have b2 := Int.emod_lt_of_pos ((y + 48271 * (z + 1) + 11) % 2147483629 * ((y + 48271 * (z + 1) + 11) % 2147483629)) (show (0 : Int) < 2147483587 by decide)
    generalize (y + 48271 * (z + 1) + 11) % 2147483629 * ((y + 48271 * (z + 1) + 11) % 2147483629) % 2147483587 = w at b1 b2 ⊢
    try (refine s_mulp ?_ ?_; · omega)
    try walk_at "zz"
    exact q _ _ (Int.emod_nonneg _ (by omega)) (Int.emod_lt_of_pos _ hm) ⟨_, _, _, hx, hy, ⟨by omega, by omega⟩, hp1⟩ B1

theorem rd_Lnumber {Z : Adr} (T : Top Z) {a0 a1 : V} {H : Hp} {Q : VK} {E : XK} (h : q_Lnumber Z a0 a1 H Q E) : t_Lnumber Z (fun cls d _ H => E cls d H) ⟨fun _ H' => Q .non H', Q, fun _ _ => False, fun _ _ => False⟩ [some a0, some a1, none, none] H := by
  unfold t_Lnumber
  obtain ⟨p, n, g, rfl, rfl, g1, g4, hn, P, q⟩ := h
  have big : 1000000 ≤ sizeLine := by decide
  walk_at "zz"
  refine cl_Ldraw ⟨p, 6, n, rfl, rfl, by omega, by omega, by omega, P, fun v1 H1 v10 v11 P1 B1 => ?_⟩
  walk_at "zz"
  refine s_ifd (fun c => ?_) (fun c => ?_)
  · walk_at "zz"
    refine cl_Ldraw ⟨p, 12, n + 1, rfl, rfl, by omega, by omega, by omega, P1, fun v2 H2 v20 v21 P2 B2 => ?_⟩
    walk_at "zz"
    exact q _ _ (small100 (by omega)) (fun _ => small60' (by omega)) (P2.le (by omega)) (B1.trans B2)
  walk_at "zz"
  refine s_ifd (fun c1 => ?_) (fun c1 => ?_)
  · walk_at "zz"
    refine cl_Ldraw ⟨p, 2001, n + 1, rfl, rfl, by omega, by omega, by omega, P1, fun v2 H2 v20 v21 P2 B2 => ?_⟩
    walk_at "zz"
    exact q _ _ (small100 (by omega)) (fun _ => small60' (by omega)) (P2.le (by omega)) (B1.trans B2)
  walk_at "zz"
  refine s_mul (.inr (by unfold CMulW; decide +kernel)) ?_
  walk_at "zz"
  intro c2 hc2
  generalize hU : L2.upd H1 c2 _ = H2
  have S2 : _root_.Z.Same H1 H2 := hU ▸ _root_.Z.same_new hc2
  have hk2 := (congrFun hU c2).symm
  rw [L2.upd_same] at hk2
  clear hU
  have P2 := P1.same S2
  have n2 := P1.ne hc2
  walk_at "zz"
  refine cl_Ldraw ⟨p, g, n + 1, rfl, rfl, by omega, by omega, by omega, P2, fun v3 H3 v30 v31 P3 B3 => ?_⟩
  have hk3 := B3.rd n2 hk2
  obtain ⟨w, hw, ew⟩ : ∃ w : Int, ((w = 10 ^ 60 ∨ (g ≠ 1 ∧ (w = 10 ^ 100 ∨ w = 10 ^ 60 ∨ w = 10 ^ 61)))) ∧ atI [V.int 1000000000000000000000000000000000000000000000000000000000000, V.int (100000000000000000000000000000000000000000000000000 * 100000000000000000000000000000000000000000000000000), V.int 1000000000000000000000000000000000000000000000000000000000000, V.int 10000000000000000000000000000000000000000000000000000000000000] v3 = some (.int w) := by
    have h : v3 = 0 ∨ v3 = 1 ∨ v3 = 2 ∨ v3 = 3 := by omega
    rcases h with h | h | h | h <;> subst h
    · exact ⟨_, .inl (by decide), rfl⟩
    · exact ⟨_, .inr ⟨by omega, .inl (by decide)⟩, rfl⟩
    · exact ⟨_, .inl (by decide), rfl⟩
    · exact ⟨_, .inr ⟨by omega, .inr (.inr (by decide))⟩, rfl⟩
  refine s_ix_l (SqL.of hk3) ew ?_
  walk_at "zz"
  refine cl_Ldraw ⟨p, 1000000, n + 1 + 1, rfl, rfl, by omega, by omega, by omega, P3, fun v4 H4 v40 v41 P4 B4 => ?_⟩
  walk_at "zz"
  refine cl_Ldraw ⟨p, 2, n + 1 + 1 + 1, rfl, rfl, by omega, by omega, by omega, P4, fun v5 H5 v50 v51 P5 B5 => ?_⟩
  walk_at "zz"
  have hB : But p H H5 := (((B1.trans (But.of S2)).trans B3).trans B4).trans B5
  have hu : v5 = 0 ∨ v5 = 1 := by omega
  rcases hu with e | e <;> subst e
  · refine q _ _ ?_ ?_ (P5.le (by omega)) hB
    · rcases hw with e | ⟨_, e | e | e⟩ <;> subst e <;> omega
    · intro h1
      rcases hw with e | ⟨h2, _⟩
      · subst e; omega
      · exact absurd h1 h2
  · refine q _ _ ?_ ?_ (P5.le (by omega)) hB
    · rcases hw with e | ⟨_, e | e | e⟩ <;> subst e <;> omega
    · intro h1
      rcases hw with e | ⟨h2, _⟩
      · subst e; omega
      · exact absurd h1 h2

theorem rd_Lrow {Z : Adr} (T : Top Z) {a0 a1 a2 a3 : V} {H : Hp} {Q : VK} {E : XK} (h : q_Lrow Z a0 a1 a2 a3 H Q E) : t_Lrow Z (fun cls d _ H => E cls d H) ⟨fun _ H' => Q .non H', Q, fun _ _ => False, fun _ _ => False⟩ [some a0, some a1, some a2, some a3, none, none, none, none, none] H := by
  unfold t_Lrow
  obtain ⟨p, n, g, fs, m, rfl, rfl, rfl, rfl, f1, f16, m1, m30, g1, g4, hn, P, q⟩ := h
  have big : 1000000 ≤ sizeLine := by decide
  have bl1 : (" " : Str).length = 1 := by decide +kernel
  walk_at "zz"
  refine cl_Ldraw ⟨p, 12, n, rfl, rfl, by omega, by omega, by omega, P, fun op H1 op0 op1 P1 B1 => ?_⟩
  walk_at "zz"
  intro c2 hc2
  generalize hU : L2.upd H1 c2 _ = H2
  have S2 : _root_.Z.Same H1 H2 := hU ▸ _root_.Z.same_new hc2
  have hk2 := (congrFun hU c2).symm
  rw [L2.upd_same] at hk2
  clear hU
  have P2 := P1.same S2
  have B2 : But p H H2 := B1.trans (But.of S2)
  walk_at "zz"
  have ho : op = 0 ∨ op = 1 ∨ op = 2 ∨ op = 3 ∨ op = 4 ∨ op = 5 ∨ op = 6 ∨ op = 7 ∨ op = 8 ∨ op = 9 ∨ op = 10 ∨ op = 11 := by omega
  rcases ho with h | h | h | h | h | h | h | h | h | h | h | h
  · subst h
    refine s_ix_l (SqL.of hk2) (v := .str "push") rfl ?_
    walk_at "zz"
    intro t3 ht3
    have S3 := same_new (o := .tup [.int 3, .int 7, .int 8, .int 9]) ht3
    refine s_in_t (SqT.of upd_same) rfl rfl ?_
    rw [show inV (.int 0) [V.int 3, .int 7, .int 8, .int 9] = false from rfl]
    have P3 := P2.same S3
    have B3 : But p H (upd H2 t3 (.tup [.int 3, .int 7, .int 8, .int 9])) := B2.trans (But.of S3)
    generalize upd H2 t3 (.tup [.int 3, .int 7, .int 8, .int 9]) = H3 at *
    walk_at "zz"
    refine s_ifdf (by decide) ?_
    walk_at "zz"
    refine cl_Lnumber ⟨p, n + 1, g, rfl, rfl, g1, g4, by omega, P3, fun v4 H4 vb0 _ P4 B4 => ?_⟩
    have C4 := B3.trans B4
    walk_at "zz"
    refine s_cut (fun σ' H' => ∃ (v nn : Int), Pl nn H' p ∧ nn ≤ n + 6 ∧ But p H H' ∧ v.natAbs < 10 ^ 100 ∧ OpOK 0 v fs m ∧ σ' = [some (.ref p), some (.int fs), some (.int m), some (.int g), some (.int 0), some (.str "push"), none, none, some (.int v)]) ?_ ?_
    · walk_at "zz"
      intro t5 ht5
      have S5 := same_new (o := .tup [.int 1, .int 2]) ht5
      refine s_in_t (SqT.of upd_same) rfl rfl ?_
      rw [show inV (.int 0) [V.int 1, .int 2] = false from rfl]
      have P5 := P4.same S5
      have C5 := C4.trans (But.of S5)
      walk_at "zz"
      exact ⟨v4, _, P5, by omega, C5, vb0, (.inl rfl), rfl⟩
    rintro σ' H71 ⟨w1, nn1, P71, hn1, C71, vb1, ok1, rfl⟩
    refine s_cut (fun σ' H' => ∃ (v nn : Int), Pl nn H' p ∧ nn ≤ n + 7 ∧ But p H H' ∧ v.natAbs < 10 ^ 100 ∧ OpOK 0 v fs m ∧ σ' = [some (.ref p), some (.int fs), some (.int m), some (.int g), some (.int 0), some (.str "push"), none, none, some (.int v)]) ?_ ?_
    · walk_at "zz"
      intro t5 ht5
      have S5 := same_new (o := .tup [.int 4, .int 5]) ht5
      refine s_in_t (SqT.of upd_same) rfl rfl ?_
      rw [show inV (.int 0) [V.int 4, .int 5] = false from rfl]
      have P5 := P71.same S5
      have C5 := C71.trans (But.of S5)
      walk_at "zz"
      exact ⟨w1, _, P5, by omega, C5, vb1, ok1, rfl⟩
    rintro σ' H72 ⟨w2, nn2, P72, hn2, C72, vb2, ok2, rfl⟩
    refine s_cut (fun σ' H' => ∃ (v nn : Int), Pl nn H' p ∧ nn ≤ n + 8 ∧ But p H H' ∧ v.natAbs < 10 ^ 100 ∧ OpOK 0 v fs m ∧ σ' = [some (.ref p), some (.int fs), some (.int m), some (.int g), some (.int 0), some (.str "push"), none, none, some (.int v)]) ?_ ?_
    · walk_at "zz"
      refine s_ifdf (by decide) ?_
      walk_at "zz"
      exact ⟨w2, _, P72, by omega, C72, vb2, ok2, rfl⟩
    rintro σ' H73 ⟨w3, nn3, P73, hn3, C73, vb3, ok3, rfl⟩
    refine s_cut (fun σ' H' => ∃ (v nn : Int), Pl nn H' p ∧ nn ≤ n + 9 ∧ But p H H' ∧ v.natAbs < 10 ^ 100 ∧ OpOK 0 v fs m ∧ σ' = [some (.ref p), some (.int fs), some (.int m), some (.int g), some (.int 0), some (.str "push"), none, none, some (.int v)]) ?_ ?_
    · walk_at "zz"
      refine s_ifdf (by decide) ?_
      walk_at "zz"
      exact ⟨w3, _, P73, by omega, C73, vb3, ok3, rfl⟩
    rintro σ' H74 ⟨w4, nn4, P74, hn4, C74, vb4, ok4, rfl⟩
    walk_at "zz"
    have lw : ("push" : Str).length ≤ 10 := by decide +kernel
    have ln := strI_len vb4
    refine s_add_s (by rw [bl1]; omega) ?_
    walk_at "zz"
    refine s_strI (lg100 vb4) ?_
    refine s_add_s (by rw [Str.length_append, bl1]; show ("push" : Str).length + 1 + (strI w4).length ≤ _; omega) ?_
    walk_at "zz"
    intro t ht
    exact q t 0 w4 _ ok4 vb4 ((P74.le (by omega)).new ht) (C74.new ht) (by rw [upd_same, show rwTx [0, w4] = [("push" : Str), strI w4] from rfl, join2]; rfl)
  · subst h
    refine s_ix_l (SqL.of hk2) (v := .str "get") rfl ?_
    walk_at "zz"
    intro t3 ht3
    have S3 := same_new (o := .tup [.int 3, .int 7, .int 8, .int 9]) ht3
    refine s_in_t (SqT.of upd_same) rfl rfl ?_
    rw [show inV (.int 1) [V.int 3, .int 7, .int 8, .int 9] = false from rfl]
    have P3 := P2.same S3
    have B3 : But p H (upd H2 t3 (.tup [.int 3, .int 7, .int 8, .int 9])) := B2.trans (But.of S3)
    generalize upd H2 t3 (.tup [.int 3, .int 7, .int 8, .int 9]) = H3 at *
    walk_at "zz"
    refine s_ifdf (by decide) ?_
    walk_at "zz"
    refine cl_Lnumber ⟨p, n + 1, g, rfl, rfl, g1, g4, by omega, P3, fun v4 H4 vb0 _ P4 B4 => ?_⟩
    have C4 := B3.trans B4
    walk_at "zz"
    refine s_cut (fun σ' H' => ∃ (v nn : Int), Pl nn H' p ∧ nn ≤ n + 6 ∧ But p H H' ∧ v.natAbs < 10 ^ 100 ∧ OpOK 1 v fs m ∧ σ' = [some (.ref p), some (.int fs), some (.int m), some (.int g), some (.int 1), some (.str "get"), none, none, some (.int v)]) ?_ ?_
    · walk_at "zz"
      intro t5 ht5
      have S5 := same_new (o := .tup [.int 1, .int 2]) ht5
      refine s_in_t (SqT.of upd_same) rfl rfl ?_
      rw [show inV (.int 1) [V.int 1, .int 2] = true from rfl]
      have P5 := P4.same S5
      have C5 := C4.trans (But.of S5)
      walk_at "zz"
      refine cl_Ldraw ⟨p, 12, _, rfl, rfl, by omega, by omega, by omega, P5, fun v6 H6 v60 v61 P6 B6 => ?_⟩
      walk_at "zz"
      exact ⟨v6, _, P6, by omega, C5.trans B6, small100 (by omega), .inr (.inl ⟨by decide, by omega, by omega⟩), rfl⟩
    rintro σ' H71 ⟨w1, nn1, P71, hn1, C71, vb1, ok1, rfl⟩
    refine s_cut (fun σ' H' => ∃ (v nn : Int), Pl nn H' p ∧ nn ≤ n + 7 ∧ But p H H' ∧ v.natAbs < 10 ^ 100 ∧ OpOK 1 v fs m ∧ σ' = [some (.ref p), some (.int fs), some (.int m), some (.int g), some (.int 1), some (.str "get"), none, none, some (.int v)]) ?_ ?_
    · walk_at "zz"
      intro t5 ht5
      have S5 := same_new (o := .tup [.int 4, .int 5]) ht5
      refine s_in_t (SqT.of upd_same) rfl rfl ?_
      rw [show inV (.int 1) [V.int 4, .int 5] = false from rfl]
      have P5 := P71.same S5
      have C5 := C71.trans (But.of S5)
      walk_at "zz"
      exact ⟨w1, _, P5, by omega, C5, vb1, ok1, rfl⟩
    rintro σ' H72 ⟨w2, nn2, P72, hn2, C72, vb2, ok2, rfl⟩
    refine s_cut (fun σ' H' => ∃ (v nn : Int), Pl nn H' p ∧ nn ≤ n + 8 ∧ But p H H' ∧ v.natAbs < 10 ^ 100 ∧ OpOK 1 v fs m ∧ σ' = [some (.ref p), some (.int fs), some (.int m), some (.int g), some (.int 1), some (.str "get"), none, none, some (.int v)]) ?_ ?_
    · walk_at "zz"
      refine s_ifdf (by decide) ?_
      walk_at "zz"
      exact ⟨w2, _, P72, by omega, C72, vb2, ok2, rfl⟩
    rintro σ' H73 ⟨w3, nn3, P73, hn3, C73, vb3, ok3, rfl⟩
    refine s_cut (fun σ' H' => ∃ (v nn : Int), Pl nn H' p ∧ nn ≤ n + 9 ∧ But p H H' ∧ v.natAbs < 10 ^ 100 ∧ OpOK 1 v fs m ∧ σ' = [some (.ref p), some (.int fs), some (.int m), some (.int g), some (.int 1), some (.str "get"), none, none, some (.int v)]) ?_ ?_
    · walk_at "zz"
      refine s_ifdf (by decide) ?_
      walk_at "zz"
      exact ⟨w3, _, P73, by omega, C73, vb3, ok3, rfl⟩
    rintro σ' H74 ⟨w4, nn4, P74, hn4, C74, vb4, ok4, rfl⟩
    walk_at "zz"
    have lw : ("get" : Str).length ≤ 10 := by decide +kernel
    have ln := strI_len vb4
    refine s_add_s (by rw [bl1]; omega) ?_
    walk_at "zz"
    refine s_strI (lg100 vb4) ?_
    refine s_add_s (by rw [Str.length_append, bl1]; show ("get" : Str).length + 1 + (strI w4).length ≤ _; omega) ?_
    walk_at "zz"
    intro t ht
    exact q t 1 w4 _ ok4 vb4 ((P74.le (by omega)).new ht) (C74.new ht) (by rw [upd_same, show rwTx [1, w4] = [("get" : Str), strI w4] from rfl, join2]; rfl)
  · subst h
    refine s_ix_l (SqL.of hk2) (v := .str "set") rfl ?_
    walk_at "zz"
    intro t3 ht3
    have S3 := same_new (o := .tup [.int 3, .int 7, .int 8, .int 9]) ht3
    refine s_in_t (SqT.of upd_same) rfl rfl ?_
    rw [show inV (.int 2) [V.int 3, .int 7, .int 8, .int 9] = false from rfl]
    have P3 := P2.same S3
    have B3 : But p H (upd H2 t3 (.tup [.int 3, .int 7, .int 8, .int 9])) := B2.trans (But.of S3)
    generalize upd H2 t3 (.tup [.int 3, .int 7, .int 8, .int 9]) = H3 at *
    walk_at "zz"
    refine s_ifdf (by decide) ?_
    walk_at "zz"
    refine cl_Lnumber ⟨p, n + 1, g, rfl, rfl, g1, g4, by omega, P3, fun v4 H4 vb0 _ P4 B4 => ?_⟩
    have C4 := B3.trans B4
    walk_at "zz"
    refine s_cut (fun σ' H' => ∃ (v nn : Int), Pl nn H' p ∧ nn ≤ n + 6 ∧ But p H H' ∧ v.natAbs < 10 ^ 100 ∧ OpOK 2 v fs m ∧ σ' = [some (.ref p), some (.int fs), some (.int m), some (.int g), some (.int 2), some (.str "set"), none, none, some (.int v)]) ?_ ?_
    · walk_at "zz"
      intro t5 ht5
      have S5 := same_new (o := .tup [.int 1, .int 2]) ht5
      refine s_in_t (SqT.of upd_same) rfl rfl ?_
      rw [show inV (.int 2) [V.int 1, .int 2] = true from rfl]
      have P5 := P4.same S5
      have C5 := C4.trans (But.of S5)
      walk_at "zz"
      refine cl_Ldraw ⟨p, 12, _, rfl, rfl, by omega, by omega, by omega, P5, fun v6 H6 v60 v61 P6 B6 => ?_⟩
      walk_at "zz"
      exact ⟨v6, _, P6, by omega, C5.trans B6, small100 (by omega), .inr (.inl ⟨by decide, by omega, by omega⟩), rfl⟩
    rintro σ' H71 ⟨w1, nn1, P71, hn1, C71, vb1, ok1, rfl⟩
    refine s_cut (fun σ' H' => ∃ (v nn : Int), Pl nn H' p ∧ nn ≤ n + 7 ∧ But p H H' ∧ v.natAbs < 10 ^ 100 ∧ OpOK 2 v fs m ∧ σ' = [some (.ref p), some (.int fs), some (.int m), some (.int g), some (.int 2), some (.str "set"), none, none, some (.int v)]) ?_ ?_
    · walk_at "zz"
      intro t5 ht5
      have S5 := same_new (o := .tup [.int 4, .int 5]) ht5
      refine s_in_t (SqT.of upd_same) rfl rfl ?_
      rw [show inV (.int 2) [V.int 4, .int 5] = false from rfl]
      have P5 := P71.same S5
      have C5 := C71.trans (But.of S5)
      walk_at "zz"
      exact ⟨w1, _, P5, by omega, C5, vb1, ok1, rfl⟩
    rintro σ' H72 ⟨w2, nn2, P72, hn2, C72, vb2, ok2, rfl⟩
    refine s_cut (fun σ' H' => ∃ (v nn : Int), Pl nn H' p ∧ nn ≤ n + 8 ∧ But p H H' ∧ v.natAbs < 10 ^ 100 ∧ OpOK 2 v fs m ∧ σ' = [some (.ref p), some (.int fs), some (.int m), some (.int g), some (.int 2), some (.str "set"), none, none, some (.int v)]) ?_ ?_
    · walk_at "zz"
      refine s_ifdf (by decide) ?_
      walk_at "zz"
      exact ⟨w2, _, P72, by omega, C72, vb2, ok2, rfl⟩
    rintro σ' H73 ⟨w3, nn3, P73, hn3, C73, vb3, ok3, rfl⟩
    refine s_cut (fun σ' H' => ∃ (v nn : Int), Pl nn H' p ∧ nn ≤ n + 9 ∧ But p H H' ∧ v.natAbs < 10 ^ 100 ∧ OpOK 2 v fs m ∧ σ' = [some (.ref p), some (.int fs), some (.int m), some (.int g), some (.int 2), some (.str "set"), none, none, some (.int v)]) ?_ ?_
    · walk_at "zz"
      refine s_ifdf (by decide) ?_
      walk_at "zz"
      exact ⟨w3, _, P73, by omega, C73, vb3, ok3, rfl⟩
    rintro σ' H74 ⟨w4, nn4, P74, hn4, C74, vb4, ok4, rfl⟩
    walk_at "zz"
    have lw : ("set" : Str).length ≤ 10 := by decide +kernel
    have ln := strI_len vb4
    refine s_add_s (by rw [bl1]; omega) ?_
    walk_at "zz"
    refine s_strI (lg100 vb4) ?_
    refine s_add_s (by rw [Str.length_append, bl1]; show ("set" : Str).length + 1 + (strI w4).length ≤ _; omega) ?_
    walk_at "zz"
    intro t ht
    exact q t 2 w4 _ ok4 vb4 ((P74.le (by omega)).new ht) (C74.new ht) (by rw [upd_same, show rwTx [2, w4] = [("set" : Str), strI w4] from rfl, join2]; rfl)
  · subst h
    refine s_ix_l (SqL.of hk2) (v := .str "drop") rfl ?_
    walk_at "zz"
    intro t3 ht3
    have S3 := same_new (o := .tup [.int 3, .int 7, .int 8, .int 9]) ht3
    refine s_in_t (SqT.of upd_same) rfl rfl ?_
    rw [show inV (.int 3) [V.int 3, .int 7, .int 8, .int 9] = true from rfl]
    have P3 := P2.same S3
    have B3 : But p H (upd H2 t3 (.tup [.int 3, .int 7, .int 8, .int 9])) := B2.trans (But.of S3)
    generalize upd H2 t3 (.tup [.int 3, .int 7, .int 8, .int 9]) = H3 at *
    walk_at "zz"
    intro t ht
    exact q t 3 0 _ (.inr (.inr (.inr (.inr (.inl ⟨by decide, rfl⟩))))) (small100 (by omega)) ((P3.le (by omega)).new ht) (B3.new ht) (by rw [upd_same, show rwTx [3, 0] = [("drop" : Str)] from rfl, join1])
  · subst h
    refine s_ix_l (SqL.of hk2) (v := .str "jump") rfl ?_
    walk_at "zz"
    intro t3 ht3
    have S3 := same_new (o := .tup [.int 3, .int 7, .int 8, .int 9]) ht3
    refine s_in_t (SqT.of upd_same) rfl rfl ?_
    rw [show inV (.int 4) [V.int 3, .int 7, .int 8, .int 9] = false from rfl]
    have P3 := P2.same S3
    have B3 : But p H (upd H2 t3 (.tup [.int 3, .int 7, .int 8, .int 9])) := B2.trans (But.of S3)
    generalize upd H2 t3 (.tup [.int 3, .int 7, .int 8, .int 9]) = H3 at *
    walk_at "zz"
    refine s_ifdf (by decide) ?_
    walk_at "zz"
    refine cl_Lnumber ⟨p, n + 1, g, rfl, rfl, g1, g4, by omega, P3, fun v4 H4 vb0 _ P4 B4 => ?_⟩
    have C4 := B3.trans B4
    walk_at "zz"
    refine s_cut (fun σ' H' => ∃ (v nn : Int), Pl nn H' p ∧ nn ≤ n + 6 ∧ But p H H' ∧ v.natAbs < 10 ^ 100 ∧ True ∧ σ' = [some (.ref p), some (.int fs), some (.int m), some (.int g), some (.int 4), some (.str "jump"), none, none, some (.int v)]) ?_ ?_
    · walk_at "zz"
      intro t5 ht5
      have S5 := same_new (o := .tup [.int 1, .int 2]) ht5
      refine s_in_t (SqT.of upd_same) rfl rfl ?_
      rw [show inV (.int 4) [V.int 1, .int 2] = false from rfl]
      have P5 := P4.same S5
      have C5 := C4.trans (But.of S5)
      walk_at "zz"
      exact ⟨v4, _, P5, by omega, C5, vb0, trivial, rfl⟩
    rintro σ' H71 ⟨w1, nn1, P71, hn1, C71, vb1, ok1, rfl⟩
    refine s_cut (fun σ' H' => ∃ (v nn : Int), Pl nn H' p ∧ nn ≤ n + 7 ∧ But p H H' ∧ v.natAbs < 10 ^ 100 ∧ OpOK 4 v fs m ∧ σ' = [some (.ref p), some (.int fs), some (.int m), some (.int g), some (.int 4), some (.str "jump"), none, none, some (.int v)]) ?_ ?_
    · walk_at "zz"
      intro t5 ht5
      have S5 := same_new (o := .tup [.int 4, .int 5]) ht5
      refine s_in_t (SqT.of upd_same) rfl rfl ?_
      rw [show inV (.int 4) [V.int 4, .int 5] = true from rfl]
      have P5 := P71.same S5
      have C5 := C71.trans (But.of S5)
      walk_at "zz"
      refine cl_Ldraw ⟨p, m, _, rfl, rfl, by omega, by omega, by omega, P5, fun v6 H6 v60 v61 P6 B6 => ?_⟩
      walk_at "zz"
      exact ⟨v6, _, P6, by omega, C5.trans B6, small100 (by omega), .inr (.inr (.inl ⟨by decide, by omega, by omega⟩)), rfl⟩
    rintro σ' H72 ⟨w2, nn2, P72, hn2, C72, vb2, ok2, rfl⟩
    refine s_cut (fun σ' H' => ∃ (v nn : Int), Pl nn H' p ∧ nn ≤ n + 8 ∧ But p H H' ∧ v.natAbs < 10 ^ 100 ∧ OpOK 4 v fs m ∧ σ' = [some (.ref p), some (.int fs), some (.int m), some (.int g), some (.int 4), some (.str "jump"), none, none, some (.int v)]) ?_ ?_
    · walk_at "zz"
      refine s_ifdf (by decide) ?_
      walk_at "zz"
      exact ⟨w2, _, P72, by omega, C72, vb2, ok2, rfl⟩
    rintro σ' H73 ⟨w3, nn3, P73, hn3, C73, vb3, ok3, rfl⟩
    refine s_cut (fun σ' H' => ∃ (v nn : Int), Pl nn H' p ∧ nn ≤ n + 9 ∧ But p H H' ∧ v.natAbs < 10 ^ 100 ∧ OpOK 4 v fs m ∧ σ' = [some (.ref p), some (.int fs), some (.int m), some (.int g), some (.int 4), some (.str "jump"), none, none, some (.int v)]) ?_ ?_
    · walk_at "zz"
      refine s_ifdf (by decide) ?_
      walk_at "zz"
      exact ⟨w3, _, P73, by omega, C73, vb3, ok3, rfl⟩
    rintro σ' H74 ⟨w4, nn4, P74, hn4, C74, vb4, ok4, rfl⟩
    walk_at "zz"
    have lw : ("jump" : Str).length ≤ 10 := by decide +kernel
    have ln := strI_len vb4
    refine s_add_s (by rw [bl1]; omega) ?_
    walk_at "zz"
    refine s_strI (lg100 vb4) ?_
    refine s_add_s (by rw [Str.length_append, bl1]; show ("jump" : Str).length + 1 + (strI w4).length ≤ _; omega) ?_
    walk_at "zz"
    intro t ht
    exact q t 4 w4 _ ok4 vb4 ((P74.le (by omega)).new ht) (C74.new ht) (by rw [upd_same, show rwTx [4, w4] = [("jump" : Str), strI w4] from rfl, join2]; rfl)
  · subst h
    refine s_ix_l (SqL.of hk2) (v := .str "unless") rfl ?_
    walk_at "zz"
    intro t3 ht3
    have S3 := same_new (o := .tup [.int 3, .int 7, .int 8, .int 9]) ht3
    refine s_in_t (SqT.of upd_same) rfl rfl ?_
    rw [show inV (.int 5) [V.int 3, .int 7, .int 8, .int 9] = false from rfl]
    have P3 := P2.same S3
    have B3 : But p H (upd H2 t3 (.tup [.int 3, .int 7, .int 8, .int 9])) := B2.trans (But.of S3)
    generalize upd H2 t3 (.tup [.int 3, .int 7, .int 8, .int 9]) = H3 at *
    walk_at "zz"
    refine s_ifdf (by decide) ?_
    walk_at "zz"
    refine cl_Lnumber ⟨p, n + 1, g, rfl, rfl, g1, g4, by omega, P3, fun v4 H4 vb0 _ P4 B4 => ?_⟩
    have C4 := B3.trans B4
    walk_at "zz"
    refine s_cut (fun σ' H' => ∃ (v nn : Int), Pl nn H' p ∧ nn ≤ n + 6 ∧ But p H H' ∧ v.natAbs < 10 ^ 100 ∧ True ∧ σ' = [some (.ref p), some (.int fs), some (.int m), some (.int g), some (.int 5), some (.str "unless"), none, none, some (.int v)]) ?_ ?_
    · walk_at "zz"
      intro t5 ht5
      have S5 := same_new (o := .tup [.int 1, .int 2]) ht5
      refine s_in_t (SqT.of upd_same) rfl rfl ?_
      rw [show inV (.int 5) [V.int 1, .int 2] = false from rfl]
      have P5 := P4.same S5
      have C5 := C4.trans (But.of S5)
      walk_at "zz"
      exact ⟨v4, _, P5, by omega, C5, vb0, trivial, rfl⟩
    rintro σ' H71 ⟨w1, nn1, P71, hn1, C71, vb1, ok1, rfl⟩
    refine s_cut (fun σ' H' => ∃ (v nn : Int), Pl nn H' p ∧ nn ≤ n + 7 ∧ But p H H' ∧ v.natAbs < 10 ^ 100 ∧ OpOK 5 v fs m ∧ σ' = [some (.ref p), some (.int fs), some (.int m), some (.int g), some (.int 5), some (.str "unless"), none, none, some (.int v)]) ?_ ?_
    · walk_at "zz"
      intro t5 ht5
      have S5 := same_new (o := .tup [.int 4, .int 5]) ht5
      refine s_in_t (SqT.of upd_same) rfl rfl ?_
      rw [show inV (.int 5) [V.int 4, .int 5] = true from rfl]
      have P5 := P71.same S5
      have C5 := C71.trans (But.of S5)
      walk_at "zz"
      refine cl_Ldraw ⟨p, m, _, rfl, rfl, by omega, by omega, by omega, P5, fun v6 H6 v60 v61 P6 B6 => ?_⟩
      walk_at "zz"
      exact ⟨v6, _, P6, by omega, C5.trans B6, small100 (by omega), .inr (.inr (.inl ⟨by decide, by omega, by omega⟩)), rfl⟩
    rintro σ' H72 ⟨w2, nn2, P72, hn2, C72, vb2, ok2, rfl⟩
    refine s_cut (fun σ' H' => ∃ (v nn : Int), Pl nn H' p ∧ nn ≤ n + 8 ∧ But p H H' ∧ v.natAbs < 10 ^ 100 ∧ OpOK 5 v fs m ∧ σ' = [some (.ref p), some (.int fs), some (.int m), some (.int g), some (.int 5), some (.str "unless"), none, none, some (.int v)]) ?_ ?_
    · walk_at "zz"
      refine s_ifdf (by decide) ?_
      walk_at "zz"
      exact ⟨w2, _, P72, by omega, C72, vb2, ok2, rfl⟩
    rintro σ' H73 ⟨w3, nn3, P73, hn3, C73, vb3, ok3, rfl⟩
    refine s_cut (fun σ' H' => ∃ (v nn : Int), Pl nn H' p ∧ nn ≤ n + 9 ∧ But p H H' ∧ v.natAbs < 10 ^ 100 ∧ OpOK 5 v fs m ∧ σ' = [some (.ref p), some (.int fs), some (.int m), some (.int g), some (.int 5), some (.str "unless"), none, none, some (.int v)]) ?_ ?_
    · walk_at "zz"
      refine s_ifdf (by decide) ?_
      walk_at "zz"
      exact ⟨w3, _, P73, by omega, C73, vb3, ok3, rfl⟩
    rintro σ' H74 ⟨w4, nn4, P74, hn4, C74, vb4, ok4, rfl⟩
    walk_at "zz"
    have lw : ("unless" : Str).length ≤ 10 := by decide +kernel
    have ln := strI_len vb4
    refine s_add_s (by rw [bl1]; omega) ?_
    walk_at "zz"
    refine s_strI (lg100 vb4) ?_
    refine s_add_s (by rw [Str.length_append, bl1]; show ("unless" : Str).length + 1 + (strI w4).length ≤ _; omega) ?_
    walk_at "zz"
    intro t ht
    exact q t 5 w4 _ ok4 vb4 ((P74.le (by omega)).new ht) (C74.new ht) (by rw [upd_same, show rwTx [5, w4] = [("unless" : Str), strI w4] from rfl, join2]; rfl)
  · subst h
    refine s_ix_l (SqL.of hk2) (v := .str "call") rfl ?_
    walk_at "zz"
    intro t3 ht3
    have S3 := same_new (o := .tup [.int 3, .int 7, .int 8, .int 9]) ht3
    refine s_in_t (SqT.of upd_same) rfl rfl ?_
    rw [show inV (.int 6) [V.int 3, .int 7, .int 8, .int 9] = false from rfl]
    have P3 := P2.same S3
    have B3 : But p H (upd H2 t3 (.tup [.int 3, .int 7, .int 8, .int 9])) := B2.trans (But.of S3)
    generalize upd H2 t3 (.tup [.int 3, .int 7, .int 8, .int 9]) = H3 at *
    walk_at "zz"
    refine s_ifdf (by decide) ?_
    walk_at "zz"
    refine cl_Lnumber ⟨p, n + 1, g, rfl, rfl, g1, g4, by omega, P3, fun v4 H4 vb0 _ P4 B4 => ?_⟩
    have C4 := B3.trans B4
    walk_at "zz"
    refine s_cut (fun σ' H' => ∃ (v nn : Int), Pl nn H' p ∧ nn ≤ n + 6 ∧ But p H H' ∧ v.natAbs < 10 ^ 100 ∧ True ∧ σ' = [some (.ref p), some (.int fs), some (.int m), some (.int g), some (.int 6), some (.str "call"), none, none, some (.int v)]) ?_ ?_
    · walk_at "zz"
      intro t5 ht5
      have S5 := same_new (o := .tup [.int 1, .int 2]) ht5
      refine s_in_t (SqT.of upd_same) rfl rfl ?_
      rw [show inV (.int 6) [V.int 1, .int 2] = false from rfl]
      have P5 := P4.same S5
      have C5 := C4.trans (But.of S5)
      walk_at "zz"
      exact ⟨v4, _, P5, by omega, C5, vb0, trivial, rfl⟩
    rintro σ' H71 ⟨w1, nn1, P71, hn1, C71, vb1, ok1, rfl⟩
    refine s_cut (fun σ' H' => ∃ (v nn : Int), Pl nn H' p ∧ nn ≤ n + 7 ∧ But p H H' ∧ v.natAbs < 10 ^ 100 ∧ True ∧ σ' = [some (.ref p), some (.int fs), some (.int m), some (.int g), some (.int 6), some (.str "call"), none, none, some (.int v)]) ?_ ?_
    · walk_at "zz"
      intro t5 ht5
      have S5 := same_new (o := .tup [.int 4, .int 5]) ht5
      refine s_in_t (SqT.of upd_same) rfl rfl ?_
      rw [show inV (.int 6) [V.int 4, .int 5] = false from rfl]
      have P5 := P71.same S5
      have C5 := C71.trans (But.of S5)
      walk_at "zz"
      exact ⟨w1, _, P5, by omega, C5, vb1, ok1, rfl⟩
    rintro σ' H72 ⟨w2, nn2, P72, hn2, C72, vb2, ok2, rfl⟩
    refine s_cut (fun σ' H' => ∃ (v nn : Int), Pl nn H' p ∧ nn ≤ n + 8 ∧ But p H H' ∧ v.natAbs < 10 ^ 100 ∧ OpOK 6 v fs m ∧ σ' = [some (.ref p), some (.int fs), some (.int m), some (.int g), some (.int 6), some (.str "call"), none, none, some (.int v)]) ?_ ?_
    · walk_at "zz"
      refine s_ifdt rfl ?_
      walk_at "zz"
      refine cl_Ldraw ⟨p, fs, _, rfl, rfl, by omega, by omega, by omega, P72, fun v6 H6 v60 v61 P6 B6 => ?_⟩
      walk_at "zz"
      exact ⟨v6, _, P6, by omega, C72.trans B6, small100 (by omega), .inr (.inr (.inr (.inl ⟨rfl, by omega, by omega⟩))), rfl⟩
    rintro σ' H73 ⟨w3, nn3, P73, hn3, C73, vb3, ok3, rfl⟩
    refine s_cut (fun σ' H' => ∃ (v nn : Int), Pl nn H' p ∧ nn ≤ n + 9 ∧ But p H H' ∧ v.natAbs < 10 ^ 100 ∧ OpOK 6 v fs m ∧ σ' = [some (.ref p), some (.int fs), some (.int m), some (.int g), some (.int 6), some (.str "call"), none, none, some (.int v)]) ?_ ?_
    · walk_at "zz"
      refine s_ifdf (by decide) ?_
      walk_at "zz"
      exact ⟨w3, _, P73, by omega, C73, vb3, ok3, rfl⟩
    rintro σ' H74 ⟨w4, nn4, P74, hn4, C74, vb4, ok4, rfl⟩
    walk_at "zz"
    have lw : ("call" : Str).length ≤ 10 := by decide +kernel
    have ln := strI_len vb4
    refine s_add_s (by rw [bl1]; omega) ?_
    walk_at "zz"
    refine s_strI (lg100 vb4) ?_
    refine s_add_s (by rw [Str.length_append, bl1]; show ("call" : Str).length + 1 + (strI w4).length ≤ _; omega) ?_
    walk_at "zz"
    intro t ht
    exact q t 6 w4 _ ok4 vb4 ((P74.le (by omega)).new ht) (C74.new ht) (by rw [upd_same, show rwTx [6, w4] = [("call" : Str), strI w4] from rfl, join2]; rfl)
  · subst h
    refine s_ix_l (SqL.of hk2) (v := .str "back") rfl ?_
    walk_at "zz"
    intro t3 ht3
    have S3 := same_new (o := .tup [.int 3, .int 7, .int 8, .int 9]) ht3
    refine s_in_t (SqT.of upd_same) rfl rfl ?_
    rw [show inV (.int 7) [V.int 3, .int 7, .int 8, .int 9] = true from rfl]
    have P3 := P2.same S3
    have B3 : But p H (upd H2 t3 (.tup [.int 3, .int 7, .int 8, .int 9])) := B2.trans (But.of S3)
    generalize upd H2 t3 (.tup [.int 3, .int 7, .int 8, .int 9]) = H3 at *
    walk_at "zz"
    intro t ht
    exact q t 7 0 _ (.inr (.inr (.inr (.inr (.inl ⟨by decide, rfl⟩))))) (small100 (by omega)) ((P3.le (by omega)).new ht) (B3.new ht) (by rw [upd_same, show rwTx [7, 0] = [("back" : Str)] from rfl, join1])
  · subst h
    refine s_ix_l (SqL.of hk2) (v := .str "fail") rfl ?_
    walk_at "zz"
    intro t3 ht3
    have S3 := same_new (o := .tup [.int 3, .int 7, .int 8, .int 9]) ht3
    refine s_in_t (SqT.of upd_same) rfl rfl ?_
    rw [show inV (.int 8) [V.int 3, .int 7, .int 8, .int 9] = true from rfl]
    have P3 := P2.same S3
    have B3 : But p H (upd H2 t3 (.tup [.int 3, .int 7, .int 8, .int 9])) := B2.trans (But.of S3)
    generalize upd H2 t3 (.tup [.int 3, .int 7, .int 8, .int 9]) = H3 at *
    walk_at "zz"
    intro t ht
    exact q t 8 0 _ (.inr (.inr (.inr (.inr (.inl ⟨by decide, rfl⟩))))) (small100 (by omega)) ((P3.le (by omega)).new ht) (B3.new ht) (by rw [upd_same, show rwTx [8, 0] = [("fail" : Str)] from rfl, join1])
  · subst h
    refine s_ix_l (SqL.of hk2) (v := .str "breath") rfl ?_
    walk_at "zz"
    intro t3 ht3
    have S3 := same_new (o := .tup [.int 3, .int 7, .int 8, .int 9]) ht3
    refine s_in_t (SqT.of upd_same) rfl rfl ?_
    rw [show inV (.int 9) [V.int 3, .int 7, .int 8, .int 9] = true from rfl]
    have P3 := P2.same S3
    have B3 : But p H (upd H2 t3 (.tup [.int 3, .int 7, .int 8, .int 9])) := B2.trans (But.of S3)
    generalize upd H2 t3 (.tup [.int 3, .int 7, .int 8, .int 9]) = H3 at *
    walk_at "zz"
    intro t ht
    exact q t 9 0 _ (.inr (.inr (.inr (.inr (.inl ⟨by decide, rfl⟩))))) (small100 (by omega)) ((P3.le (by omega)).new ht) (B3.new ht) (by rw [upd_same, show rwTx [9, 0] = [("breath" : Str)] from rfl, join1])
  · subst h
    refine s_ix_l (SqL.of hk2) (v := .str "") rfl ?_
    walk_at "zz"
    intro t3 ht3
    have S3 := same_new (o := .tup [.int 3, .int 7, .int 8, .int 9]) ht3
    refine s_in_t (SqT.of upd_same) rfl rfl ?_
    rw [show inV (.int 10) [V.int 3, .int 7, .int 8, .int 9] = false from rfl]
    have P3 := P2.same S3
    have B3 : But p H (upd H2 t3 (.tup [.int 3, .int 7, .int 8, .int 9])) := B2.trans (But.of S3)
    generalize upd H2 t3 (.tup [.int 3, .int 7, .int 8, .int 9]) = H3 at *
    walk_at "zz"
    refine s_ifdt rfl ?_
    walk_at "zz"
    refine cl_Ldraw ⟨p, 12, n + 1, rfl, rfl, by omega, by omega, by omega, P3, fun v4 H4 v40 v41 P4 B4 => ?_⟩
    have C4 := B3.trans B4
    walk_at "zz"
    intro c5 hc5
    generalize hU : L2.upd H4 c5 _ = H5
    have S5 : _root_.Z.Same H4 H5 := hU ▸ _root_.Z.same_new hc5
    have hk5 := (congrFun hU c5).symm
    rw [L2.upd_same] at hk5
    clear hU
    have P5 := P4.same S5
    have C5 : But p H H5 := C4.trans (But.of S5)
    walk_at "zz"
    have hv : v4 = 0 ∨ v4 = 1 ∨ v4 = 2 ∨ v4 = 3 ∨ v4 = 4 ∨ v4 = 5 ∨ v4 = 6 ∨ v4 = 7 ∨ v4 = 8 ∨ v4 = 9 ∨ v4 = 10 ∨ v4 = 11 := by omega
    rcases hv with h | h | h | h | h | h | h | h | h | h | h | h
    · subst h
      refine s_ix_l (SqL.of hk5) (v := .str "add") rfl ?_
      walk_at "zz"
      intro t ht
      exact q t 10 8 _ (.inr (.inr (.inr (.inr (.inr (.inl ⟨rfl, by decide, by decide⟩)))))) (small100 (by decide)) ((P5.le (by omega)).new ht) (C5.new ht) (by rw [upd_same, show rwTx [10, 8] = [("add" : Str)] from rfl, join1]; rfl)
    · subst h
      refine s_ix_l (SqL.of hk5) (v := .str "sub") rfl ?_
      walk_at "zz"
      intro t ht
      exact q t 10 9 _ (.inr (.inr (.inr (.inr (.inr (.inl ⟨rfl, by decide, by decide⟩)))))) (small100 (by decide)) ((P5.le (by omega)).new ht) (C5.new ht) (by rw [upd_same, show rwTx [10, 9] = [("sub" : Str)] from rfl, join1]; rfl)
    · subst h
      refine s_ix_l (SqL.of hk5) (v := .str "mul") rfl ?_
      walk_at "zz"
      intro t ht
      exact q t 10 10 _ (.inr (.inr (.inr (.inr (.inr (.inl ⟨rfl, by decide, by decide⟩)))))) (small100 (by decide)) ((P5.le (by omega)).new ht) (C5.new ht) (by rw [upd_same, show rwTx [10, 10] = [("mul" : Str)] from rfl, join1]; rfl)
    · subst h
      refine s_ix_l (SqL.of hk5) (v := .str "quo") rfl ?_
      walk_at "zz"
      intro t ht
      exact q t 10 11 _ (.inr (.inr (.inr (.inr (.inr (.inl ⟨rfl, by decide, by decide⟩)))))) (small100 (by decide)) ((P5.le (by omega)).new ht) (C5.new ht) (by rw [upd_same, show rwTx [10, 11] = [("quo" : Str)] from rfl, join1]; rfl)
    · subst h
      refine s_ix_l (SqL.of hk5) (v := .str "rest") rfl ?_
      walk_at "zz"
      intro t ht
      exact q t 10 12 _ (.inr (.inr (.inr (.inr (.inr (.inl ⟨rfl, by decide, by decide⟩)))))) (small100 (by decide)) ((P5.le (by omega)).new ht) (C5.new ht) (by rw [upd_same, show rwTx [10, 12] = [("rest" : Str)] from rfl, join1]; rfl)
    · subst h
      refine s_ix_l (SqL.of hk5) (v := .str "less") rfl ?_
      walk_at "zz"
      intro t ht
      exact q t 10 13 _ (.inr (.inr (.inr (.inr (.inr (.inl ⟨rfl, by decide, by decide⟩)))))) (small100 (by decide)) ((P5.le (by omega)).new ht) (C5.new ht) (by rw [upd_same, show rwTx [10, 13] = [("less" : Str)] from rfl, join1]; rfl)
    · subst h
      refine s_ix_l (SqL.of hk5) (v := .str "same") rfl ?_
      walk_at "zz"
      intro t ht
      exact q t 10 14 _ (.inr (.inr (.inr (.inr (.inr (.inl ⟨rfl, by decide, by decide⟩)))))) (small100 (by decide)) ((P5.le (by omega)).new ht) (C5.new ht) (by rw [upd_same, show rwTx [10, 14] = [("same" : Str)] from rfl, join1]; rfl)
    · subst h
      refine s_ix_l (SqL.of hk5) (v := .str "push") rfl ?_
      walk_at "zz"
      intro t ht
      exact q t 10 15 _ (.inr (.inr (.inr (.inr (.inr (.inl ⟨rfl, by decide, by decide⟩)))))) (small100 (by decide)) ((P5.le (by omega)).new ht) (C5.new ht) (by rw [upd_same, show rwTx [10, 15] = [("push" : Str)] from rfl, join1]; rfl)
    · subst h
      refine s_ix_l (SqL.of hk5) (v := .str "at") rfl ?_
      walk_at "zz"
      intro t ht
      exact q t 10 16 _ (.inr (.inr (.inr (.inr (.inr (.inl ⟨rfl, by decide, by decide⟩)))))) (small100 (by decide)) ((P5.le (by omega)).new ht) (C5.new ht) (by rw [upd_same, show rwTx [10, 16] = [("at" : Str)] from rfl, join1]; rfl)
    · subst h
      refine s_ix_l (SqL.of hk5) (v := .str "put") rfl ?_
      walk_at "zz"
      intro t ht
      exact q t 10 17 _ (.inr (.inr (.inr (.inr (.inr (.inl ⟨rfl, by decide, by decide⟩)))))) (small100 (by decide)) ((P5.le (by omega)).new ht) (C5.new ht) (by rw [upd_same, show rwTx [10, 17] = [("put" : Str)] from rfl, join1]; rfl)
    · subst h
      refine s_ix_l (SqL.of hk5) (v := .str "size") rfl ?_
      walk_at "zz"
      intro t ht
      exact q t 10 18 _ (.inr (.inr (.inr (.inr (.inr (.inl ⟨rfl, by decide, by decide⟩)))))) (small100 (by decide)) ((P5.le (by omega)).new ht) (C5.new ht) (by rw [upd_same, show rwTx [10, 18] = [("size" : Str)] from rfl, join1]; rfl)
    · subst h
      refine s_ix_l (SqL.of hk5) (v := .str "new") rfl ?_
      walk_at "zz"
      intro t ht
      exact q t 10 19 _ (.inr (.inr (.inr (.inr (.inr (.inl ⟨rfl, by decide, by decide⟩)))))) (small100 (by decide)) ((P5.le (by omega)).new ht) (C5.new ht) (by rw [upd_same, show rwTx [10, 19] = [("new" : Str)] from rfl, join1]; rfl)
  · subst h
    refine s_ix_l (SqL.of hk2) (v := .str "pick") rfl ?_
    walk_at "zz"
    intro t3 ht3
    have S3 := same_new (o := .tup [.int 3, .int 7, .int 8, .int 9]) ht3
    refine s_in_t (SqT.of upd_same) rfl rfl ?_
    rw [show inV (.int 11) [V.int 3, .int 7, .int 8, .int 9] = false from rfl]
    have P3 := P2.same S3
    have B3 : But p H (upd H2 t3 (.tup [.int 3, .int 7, .int 8, .int 9])) := B2.trans (But.of S3)
    generalize upd H2 t3 (.tup [.int 3, .int 7, .int 8, .int 9]) = H3 at *
    walk_at "zz"
    refine s_ifdf (by decide) ?_
    walk_at "zz"
    refine cl_Lnumber ⟨p, n + 1, g, rfl, rfl, g1, g4, by omega, P3, fun v4 H4 vb0 _ P4 B4 => ?_⟩
    have C4 := B3.trans B4
    walk_at "zz"
    refine s_cut (fun σ' H' => ∃ (v nn : Int), Pl nn H' p ∧ nn ≤ n + 6 ∧ But p H H' ∧ v.natAbs < 10 ^ 100 ∧ True ∧ σ' = [some (.ref p), some (.int fs), some (.int m), some (.int g), some (.int 11), some (.str "pick"), none, none, some (.int v)]) ?_ ?_
    · walk_at "zz"
      intro t5 ht5
      have S5 := same_new (o := .tup [.int 1, .int 2]) ht5
      refine s_in_t (SqT.of upd_same) rfl rfl ?_
      rw [show inV (.int 11) [V.int 1, .int 2] = false from rfl]
      have P5 := P4.same S5
      have C5 := C4.trans (But.of S5)
      walk_at "zz"
      exact ⟨v4, _, P5, by omega, C5, vb0, trivial, rfl⟩
    rintro σ' H71 ⟨w1, nn1, P71, hn1, C71, vb1, ok1, rfl⟩
    refine s_cut (fun σ' H' => ∃ (v nn : Int), Pl nn H' p ∧ nn ≤ n + 7 ∧ But p H H' ∧ v.natAbs < 10 ^ 100 ∧ True ∧ σ' = [some (.ref p), some (.int fs), some (.int m), some (.int g), some (.int 11), some (.str "pick"), none, none, some (.int v)]) ?_ ?_
    · walk_at "zz"
      intro t5 ht5
      have S5 := same_new (o := .tup [.int 4, .int 5]) ht5
      refine s_in_t (SqT.of upd_same) rfl rfl ?_
      rw [show inV (.int 11) [V.int 4, .int 5] = false from rfl]
      have P5 := P71.same S5
      have C5 := C71.trans (But.of S5)
      walk_at "zz"
      exact ⟨w1, _, P5, by omega, C5, vb1, ok1, rfl⟩
    rintro σ' H72 ⟨w2, nn2, P72, hn2, C72, vb2, ok2, rfl⟩
    refine s_cut (fun σ' H' => ∃ (v nn : Int), Pl nn H' p ∧ nn ≤ n + 8 ∧ But p H H' ∧ v.natAbs < 10 ^ 100 ∧ True ∧ σ' = [some (.ref p), some (.int fs), some (.int m), some (.int g), some (.int 11), some (.str "pick"), none, none, some (.int v)]) ?_ ?_
    · walk_at "zz"
      refine s_ifdf (by decide) ?_
      walk_at "zz"
      exact ⟨w2, _, P72, by omega, C72, vb2, ok2, rfl⟩
    rintro σ' H73 ⟨w3, nn3, P73, hn3, C73, vb3, ok3, rfl⟩
    refine s_cut (fun σ' H' => ∃ (v nn : Int), Pl nn H' p ∧ nn ≤ n + 9 ∧ But p H H' ∧ v.natAbs < 10 ^ 100 ∧ OpOK 11 v fs m ∧ σ' = [some (.ref p), some (.int fs), some (.int m), some (.int g), some (.int 11), some (.str "pick"), none, none, some (.int v)]) ?_ ?_
    · walk_at "zz"
      refine s_ifdt rfl ?_
      walk_at "zz"
      refine cl_Ldraw ⟨p, 11, _, rfl, rfl, by omega, by omega, by omega, P73, fun v6 H6 v60 v61 P6 B6 => ?_⟩
      walk_at "zz"
      exact ⟨2 + v6, _, P6, by omega, C73.trans B6, small100 (by omega), .inr (.inr (.inr (.inr (.inr (.inr ⟨rfl, by omega, by omega⟩))))), rfl⟩
    rintro σ' H74 ⟨w4, nn4, P74, hn4, C74, vb4, ok4, rfl⟩
    walk_at "zz"
    have lw : ("pick" : Str).length ≤ 10 := by decide +kernel
    have ln := strI_len vb4
    refine s_add_s (by rw [bl1]; omega) ?_
    walk_at "zz"
    refine s_strI (lg100 vb4) ?_
    refine s_add_s (by rw [Str.length_append, bl1]; show ("pick" : Str).length + 1 + (strI w4).length ≤ _; omega) ?_
    walk_at "zz"
    intro t ht
    exact q t 11 w4 _ ok4 vb4 ((P74.le (by omega)).new ht) (C74.new ht) (by rw [upd_same, show rwTx [11, w4] = [("pick" : Str), strI w4] from rfl, join2]; rfl)

theorem rd_Lcode {Z : Adr} (T : Top Z) {a0 a1 a2 a3 : V} {H : Hp} {Q : VK} {E : XK} (h : q_Lcode Z a0 a1 a2 a3 H Q E) : t_Lcode Z (fun cls d _ H => E cls d H) ⟨fun _ H' => Q .non H', Q, fun _ _ => False, fun _ _ => False⟩ [some a0, some a1, some a2, some a3, none, none, none, none, none, none, none, none, none, none, none] H := by
  unfold t_Lcode
  obtain ⟨p, n, g, most, long, rfl, rfl, rfl, rfl, m1, m16, l1, l30, g1, g4, hn, P, q⟩ := h
  have big : 1000000 ≤ sizeLine := by decide
  have bl1 : (" " : Str).length = 1 := by decide +kernel
  have fn1 : ("fun " : Str).length = 4 := by decide +kernel
  walk_at "zz"
  refine cl_Ldraw ⟨p, most, n, rfl, rfl, by omega, by omega, by omega, P, fun v1 H1 v10 v11 P1 B1 => ?_⟩
  obtain ⟨k, rfl⟩ : ∃ k : Nat, v1 = (k : Int) := ⟨v1.toNat, by omega⟩
  walk_at "zz"
  refine cl_Ldraw ⟨p, long, n + 1, rfl, rfl, by omega, by omega, by omega, P1, fun v2 H2 v20 v21 P2 B2 => ?_⟩
  obtain ⟨m, rfl⟩ : ∃ m : Nat, v2 = (m : Int) := ⟨v2.toNat, by omega⟩
  have ek : (1 : Int) + (k : Int) = ((1 + k : Nat) : Int) := by omega
  have em : (1 : Int) + (m : Int) = ((1 + m : Nat) : Int) := by omega
  have B02 := B1.trans B2
  walk_at "zz"
  rw [ek, em]
  obtain ⟨fs, efs⟩ : ∃ fs, fs = 1 + k := ⟨_, rfl⟩
  obtain ⟨rm, erm⟩ : ∃ rm, rm = 1 + m := ⟨_, rfl⟩
  rw [← efs, ← erm]
  have f1 : 1 ≤ fs ∧ fs ≤ 16 := by omega
  have r1 : 1 ≤ rm ∧ rm ≤ 30 := by omega
  intro lc hlc
  have nlc := P2.ne hlc
  have hlcH := B02.none nlc hlc
  generalize hU : L2.upd H2 lc _ = H3
  have S3 : _root_.Z.Same H2 H3 := hU ▸ _root_.Z.same_new hlc
  have hk3 := (congrFun hU lc).symm
  rw [L2.upd_same] at hk3
  clear hU
  walk_at "zz"
  intro ll hll
  have nll := (P2.same S3).ne hll
  have hllH : H ll = none := B02.none nll (S3.free hll)
  have ncl : lc ≠ ll := ne_of_none hk3 hll
  generalize hU : L2.upd H3 ll _ = H4
  have S4 : _root_.Z.Same H3 H4 := hU ▸ _root_.Z.same_new hll
  have hk4 := (congrFun hU ll).symm
  rw [L2.upd_same] at hk4
  clear hU
  have P4 := (P2.same S3).same S4
  have B04 := B02.trans (But.of (S3.trans S4))
  have hk34 := S4 _ _ hk3
  walk_at "zz"
  refine loop_range (fun i σ' H' => ∃ (hs : List (List Int)) (x8 x9 x10 x11 x12 x13 : Option V), Pl (n + 2 + 20 * (i : Int)) H' p ∧ But p H H' ∧ hs.length = i ∧ (∀ (j : Nat) (h : List Int), hs[j]? = some h → HeadOK h j rm) ∧ H' lc = some (.lst (((fs : Int) :: hs.flatten).map V.int)) ∧ hs.flatten.length = 3 * i ∧ H' ll = some (.lst ((hs.map fun h => Txt.join " " (hdTx h)).map V.str)) ∧
      σ' = [some (.ref p), some (.int most), some (.int long), some (.int g), some (.int (fs : Int)), some (.int (rm : Int)), some (.ref lc), some (.ref ll), x8, x9, x10, x11, x12, x13, none])
    ⟨[], _, _, _, _, _, _, P4.le (by omega), B04, rfl, (fun j h e => by cases e), hk34, rfl, hk4, rfl⟩ ?_ ?_
  · rintro i σ' H5 hi ⟨hs, x8, x9, x10, x11, x12, x13, P5, B5, hsl, hok, hc5, fl5, hl5, rfl⟩
    have hi' : i < fs := by omega
    rw [show (0 : Int) + (i : Int) = i by omega]
    walk_at "zz"
    refine cl_Ldraw ⟨p, 5, _, rfl, rfl, by omega, by omega, by omega, P5, fun v6 H6 v60 v61 P6 B6 => ?_⟩
    walk_at "zz"
    refine cl_Ldraw ⟨p, rm, _, rfl, rfl, by omega, by omega, by omega, P6, fun s7 H7 s70 s71 P7 B7 => ?_⟩
    walk_at "zz"
    have epr : ∃ pb : Int, v6 * (if decide ((0 : Int) < (i : Int)) = true then 1 else 0) = pb ∧ 0 ≤ pb ∧ pb ≤ (if 0 < i then 4 else 0) ∧ pb ≤ 4 := by
      by_cases c : 0 < i
      · rw [if_pos (by simpa using c), if_pos c, Int.mul_one]
        exact ⟨v6, rfl, v60, by omega, by omega⟩
      · rw [if_neg (by simpa using c), if_neg c, Int.mul_zero]
        exact ⟨0, rfl, by decide, by decide, by decide⟩
    obtain ⟨pb, ep, pb0, pb1, pb4⟩ := epr
    rw [ep]
    refine cl_Ldraw ⟨p, 13 - pb, _, rfl, rfl, by omega, by omega, by omega, P7, fun v8 H8 v80 v81 P8 B8 => ?_⟩
    have BH8 := ((B5.trans B6).trans B7).trans B8
    have hc8 := B8.rd nlc (B7.rd nlc (B6.rd nlc hc5))
    have hl8 := B8.rd nll (B7.rd nll (B6.rd nll hl5))
    walk_at "zz"
    intro c9 hc9
    have nc9 := P8.ne hc9
    have nc9l : c9 ≠ lc := (ne_of_none hc8 hc9).symm
    generalize hU : L2.upd H8 c9 _ = H9
    have S9 : _root_.Z.Same H8 H9 := hU ▸ _root_.Z.same_new hc9
    have hk9 := (congrFun hU c9).symm
    rw [L2.upd_same] at hk9
    clear hU
    have hc9' := S9 _ _ hc8
    have hl9' := S9 _ _ hl8
    have P9 := P8.same S9
    have BH9 := BH8.trans (But.of S9)
    walk_at "zz"
    refine c_extend hc9' (zs := [s7, pb, pb + v8].map V.int) hk9 (by simp only [List.length_map, List.length_cons, List.length_nil, fl5]; omega) fun H10 B10 h10 => ?_
    have hk10 := B10.rd nc9l hk9
    have hl10 := B10.rd ncl.symm hl9'
    have P10 := P9.but B10 nlc.symm
    have BH10 := BH9.own B10 hlcH
    walk_at "zz"
    refine lc_lst ([s7, pb, pb + v8].map V.int) (fun D' j H' => Same H10 H' ∧ H' D' = some (.lst ((([s7, pb, pb + v8].take j).map strI).map V.str))) (fun D' hD' => ⟨same_new hD', by rw [List.take_zero]; exact upd_same⟩) (fun D' j H' hD' hj z => SqL.of (z.1 _ _ hk10)) ?_ ?_
    · rintro D' j y H11 hD' hy ⟨S11, h11⟩
      rw [List.getElem?_map] at hy
      obtain ⟨x, ex, rfl⟩ := Option.map_eq_some_iff.mp hy
      have hj := (List.getElem?_eq_some_iff.mp ex).1
      have hx := List.mem_of_getElem? ex
      simp only [List.mem_cons, List.not_mem_nil, or_false] at hx
      have hxs : x.natAbs ≤ 1000000 := by rcases hx with e | e | e <;> subst e <;> omega
      walk_at "zz"
      refine s_strI (lg100 (small100 hxs)) ?_
      have hj3 : j < 3 := hj
      refine c_acc h11 (by simp only [List.length_map, List.length_take]; omega) fun H12 B12 h12 => ⟨same_own S11 B12 hD', ?_⟩
      rw [h12, List.take_succ_eq_append_getElem hj, (List.getElem?_eq_some_iff.mp ex).2]
      simp [strI]
    rintro D' H11 hD' ⟨S11, h11⟩
    have h11' : H11 D' = some (.lst ([strI s7, strI pb, strI (pb + v8)].map V.str)) := h11
    have q1 := strI_len (v := s7) (small100 (by omega))
    have q2 := strI_len (v := pb) (small100 (by omega))
    have q3 := strI_len (v := pb + v8) (small100 (by omega))
    walk_at "zz"
    refine s_join_l (SqL.of h11') (by
      simp only [List.map_cons, List.map_nil, List.sum_cons, List.sum_nil, List.length_cons, List.length_nil, bl1]
      omega) ?_
    have HO : HeadOK [s7, pb, pb + v8] i rm := ⟨s7, pb, pb + v8, rfl, s70, s71, pb0, pb1, by omega, by omega⟩
    have hl0 := head_len HO (by omega)
    rw [← head_join, Str.length_append, fn1] at hl0
    refine s_add_s (by rw [fn1]; omega) ?_
    rw [head_join]
    have hl11 := S11 _ _ hl10
    walk_at "zz"
    refine c_append hl11 (by rw [List.length_map, List.length_map]; omega) fun H12 B12 h12 => ?_
    walk_at "zz"
    refine ⟨hs ++ [[s7, pb, pb + v8]], _, _, _, _, _, _, ((P10.same S11).but B12 nll.symm).le (by omega), (BH10.trans (But.of S11)).own B12 hllH, by rw [List.length_append, hsl]; rfl, fun j h e => ?_, ?_, ?_, ?_, rfl⟩
    · by_cases cj : j < hs.length
      · rw [List.getElem?_append_left cj] at e
        exact hok j h e
      · have hj := (List.getElem?_eq_some_iff.mp e).1
        rw [List.length_append, List.length_singleton] at hj
        have ej : j = hs.length := by omega
        rw [ej, List.getElem?_append_right (Nat.le_refl _), Nat.sub_self] at e
        cases e
        rw [ej, hsl]
        exact HO
    · have hne : lc ≠ ll := ncl
      rw [B12.rd hne (S11 _ _ h10)]
      simp
    · rw [List.flatten_append, List.length_append, fl5]
      simp
      omega
    · rw [h12]
      simp
  rintro σ' H5 ⟨hs, x8, x9, x10, x11, x12, x13, P5, B5, hsl, hok, hc5, fl5, hl5, rfl⟩
  rw [Int.toNat_natCast] at hsl fl5 P5
  walk_at "zz"
  refine loop_range (fun i σ' H' => ∃ (rs : List (List Int)) (x8 x9 x10 x11 x12 x13 : Option V), Pl (n + 500 + 20 * (i : Int)) H' p ∧ But p H H' ∧ rs.length = i ∧ (∀ r ∈ rs, RowOK r fs rm ∧ (r.getD 1 0).natAbs < 10 ^ 100) ∧ H' lc = some (.lst (((fs : Int) :: (hs.flatten ++ rs.flatten)).map V.int)) ∧ rs.flatten.length = 2 * i ∧ H' ll = some (.lst (((hs.map hdTx ++ rs.map rwTx).map fun ws => Txt.join " " ws).map V.str)) ∧
      σ' = [some (.ref p), some (.int most), some (.int long), some (.int g), some (.int (fs : Int)), some (.int (rm : Int)), some (.ref lc), some (.ref ll), x8, x9, x10, x11, x12, x13, none])
    ⟨[], _, _, _, _, _, _, P5.le (by omega), B5, rfl, (fun r hr => by cases hr), by rw [hc5]; simp, rfl, by rw [hl5]; simp, rfl⟩ ?_ ?_
  · rintro i σ' H6 hi ⟨rs, x8, x9, x10, x11, x12, x13, P6, B6, rsl, rok, hc6, fl6, hl6, rfl⟩
    have hi' : i < rm := by omega
    walk_at "zz"
    refine cl_Lrow ⟨p, _, g, fs, rm, rfl, rfl, rfl, rfl, by omega, by omega, by omega, by omega, g1, g4, by omega, P6, fun t op v H7 ok vb P7 B7 ht => ?_⟩
    have hc7 := B7.rd nlc hc6
    have hl7 := B7.rd nll hl6
    refine s_gun_t (SqT.of ht) rfl ?_
    walk_at "zz"
    intro c8 hc8
    have nc8 : c8 ≠ lc := (ne_of_none hc7 hc8).symm
    generalize hU : L2.upd H7 c8 _ = H8
    have S8 : _root_.Z.Same H7 H8 := hU ▸ _root_.Z.same_new hc8
    have hk8 := (congrFun hU c8).symm
    rw [L2.upd_same] at hk8
    clear hU
    have hc8' := S8 _ _ hc7
    have hl8' := S8 _ _ hl7
    walk_at "zz"
    refine c_extend hc8' (zs := [op, v].map V.int) hk8 (by simp only [List.length_map, List.length_cons, List.length_nil, List.length_append, fl5, fl6]; omega) fun H9 B9 h9 => ?_
    have hl9 := B9.rd ncl.symm hl8'
    have P9 := (P7.same S8).but B9 nlc.symm
    have BH9 := ((B6.trans B7).trans (But.of S8)).own B9 hlcH
    walk_at "zz"
    refine c_append hl9 (by simp only [List.length_map, List.length_append]; omega) fun H10 B10 h10 => ?_
    walk_at "zz"
    refine ⟨rs ++ [[op, v]], _, _, _, _, _, _, (P9.but B10 nll.symm).le (by omega), BH9.own B10 hllH, by rw [List.length_append, rsl]; rfl, fun r hr => ?_, ?_, ?_, ?_, rfl⟩
    · rcases List.mem_append.mp hr with z | z
      · exact rok r z
      · rw [List.mem_singleton.mp z]
        exact ⟨⟨op, v, rfl, ok⟩, vb⟩
    · rw [B10.rd ncl h9]
      simp
    · rw [List.flatten_append, List.length_append, fl6]
      simp
      omega
    · rw [h10]
      simp
  rintro σ' H6 ⟨rs, x8, x9, x10, x11, x12, x13, P6, B6, rsl, rok, hc6, fl6, hl6, rfl⟩
  rw [Int.toNat_natCast] at rsl P6
  have C : CodeOK hs rs := ⟨by omega, by omega, by omega, fun i h e => by rw [rsl]; exact hok i h e, fun r hr => by rw [hsl, rsl]; exact (rok r hr).1⟩
  walk_at "zz"
  intro t ht
  refine q t lc ll hs rs _ C (fun r hr _ => (rok r hr).2) (by omega) upd_same (up_new ht ?_) (up_new ht hl6) ((P6.le (by omega)).new ht) (B6.new ht)
  rw [hc6]
  unfold codeL
  rw [hsl]

theorem rd_Lcaught {Z : Adr} (T : Top Z) {a0 : V} {H : Hp} {Q : VK} {E : XK} (h : q_Lcaught Z a0 H Q E) : t_Lcaught Z (fun cls d _ H => E cls d H) ⟨fun _ H' => Q .non H', Q, fun _ _ => False, fun _ _ => False⟩ [some a0, none, none] H := by
  unfold t_Lcaught
  obtain ⟨w, hw, q⟩ := h
  walk_at "zz"
  refine s_tryKeep ?_
  walk_at "zz"
  rcases hw with ⟨i, hr, rfl⟩ | ⟨hr, rfl⟩
  · refine cl_read_code (.inr (.inl ⟨i, hr, fun d H1 S1 x => ⟨true, T.ex_NoText_ChainError, fun _ a ha => ?_, fun z => by cases z⟩⟩))
    walk_at "zz"
    intro _
    have kp : Kept (upd H1 a (kxo a (.ref Z.c_NoText) (some d))) a Z.c_NoText d _ := Kept.of ha x
    have S2 : Same H (upd H1 a (kxo a (.ref Z.c_NoText) (some d))) := S1.trans (same_new ha)
    generalize upd H1 a (kxo a (.ref Z.c_NoText) (some d)) = H2 at *
    walk_at "zz"
    refine s_isKv kp T.kx_NoText T.kv_NoText ?_
    walk_at "zz"
    intro tq htq
    have Sq := same_new (o := .tup [.ref Z.c_NoName, .ref Z.c_NoRow, .ref Z.c_NoSheet]) htq
    refine s_isKt (kp.same Sq) T.kx_NoText upd_same (.cons (.own _) (.cons (.own _) (.cons (.own _) .nil))) (kitAny_no T.ki_NoText_NoName (kitAny_no T.ki_NoText_NoRow (kitAny_no T.ki_NoText_NoSheet kitAny_nil))) ?_
    have kp := kp.same Sq
    generalize upd H2 tq _ = H3 at *
    walk_at "zz"
    refine s_isKo kp T.kx_NoText T.ki_NoText_NoText ?_
    walk_at "zz"
    refine s_isKo kp T.kx_NoText T.ki_NoText_NoCode ?_
    walk_at "zz"
    refine s_kf ?_
    walk_at "zz"
    refine s_zkf kp T.xf_NoText T.na_NoText_at (v := .int (i : Int)) lk_eq ?_
    walk_at "zz"
    intro l4 hl4
    have S4 := same_new (o := .lst [.str "other", .int (i : Int)]) hl4
    have kp := kp.same S4
    have hk4 : upd H3 l4 (.lst [.str "other", .int (i : Int)]) l4 = some (.lst [.str "other", .int (i : Int)]) := upd_same
    generalize upd H3 l4 _ = H4 at *
    walk_at "zz"
    refine s_kf ?_
    walk_at "zz"
    refine s_zkf kp T.xf_NoText T.na_NoText_at (v := .int (i : Int)) lk_eq ?_
    walk_at "zz"
    refine s_kf ?_
    walk_at "zz"
    refine s_zkf kp T.xf_NoText T.na_NoText_at (v := .int (i : Int)) lk_eq ?_
    walk_at "zz"
    refine s_ix_l (SqL.of hk4) (v := .int (i : Int)) (at_of (j := 1) (by decide) rfl) ?_
    exact q _ ((S2.trans Sq).trans S4)
  · refine cl_read_code (.inr (.inr ⟨hr, fun H1 S1 => ⟨true, T.ex_NoCode_ChainError, fun _ a ha => ?_, fun z => by cases z⟩⟩))
    walk_at "zz"
    intro _
    have kp : upd H1 a (kxo a (.ref Z.c_NoCode) none) a = some (kxo a (.ref Z.c_NoCode) none) := upd_same
    have S2 : Same H (upd H1 a (kxo a (.ref Z.c_NoCode) none)) := S1.trans (same_new ha)
    generalize upd H1 a (kxo a (.ref Z.c_NoCode) none) = H2 at *
    walk_at "zz"
    refine s_isNv kp T.kx_NoCode T.kv_NoCode ?_
    walk_at "zz"
    intro tq htq
    have Sq := same_new (o := .tup [.ref Z.c_NoName, .ref Z.c_NoRow, .ref Z.c_NoSheet]) htq
    refine s_isNt (Sq _ _ kp) T.kx_NoCode upd_same (.cons (.own _) (.cons (.own _) (.cons (.own _) .nil))) (kitAny_no T.ki_NoCode_NoName (kitAny_no T.ki_NoCode_NoRow (kitAny_no T.ki_NoCode_NoSheet kitAny_nil))) ?_
    have kp := Sq _ _ kp
    generalize upd H2 tq _ = H3 at *
    walk_at "zz"
    refine s_isNo kp T.kx_NoCode T.ki_NoCode_NoText ?_
    walk_at "zz"
    intro l4 hl4
    have S4 := same_new (o := .lst [.str "other", .str "code"]) hl4
    have kp := S4 _ _ kp
    have hk4 : upd H3 l4 (.lst [.str "other", .str "code"]) l4 = some (.lst [.str "other", .str "code"]) := upd_same
    generalize upd H3 l4 _ = H4 at *
    walk_at "zz"
    refine s_isNo kp T.kx_NoCode T.ki_NoCode_NoCode ?_
    walk_at "zz"
    refine s_isNo kp T.kx_NoCode T.ki_NoCode_NoText ?_
    walk_at "zz"
    refine s_ix_l (SqL.of hk4) (v := .str "code") (at_of (j := 1) (by decide) rfl) ?_
    exact q _ ((S2.trans Sq).trans S4)

theorem rd_Lbad_lines {Z : Adr} (T : Top Z) {a0 : V} {H : Hp} {Q : VK} {E : XK} (h : q_Lbad_lines Z a0 H Q E) : t_Lbad_lines Z (fun cls d _ H => E cls d H) ⟨fun _ H' => Q .non H', Q, fun _ _ => False, fun _ _ => False⟩ [some a0, none] H := by
  unfold t_Lbad_lines
  obtain ⟨b, rfl, q⟩ := h
  have big : 1000000 ≤ sizeLine := by decide
  walk_at "zz"
  intro l1 hl1
  generalize hU : L2.upd H l1 _ = H1
  have S1 : _root_.Z.Same H H1 := hU ▸ _root_.Z.same_new hl1
  have h1 := (congrFun hU l1).symm
  rw [L2.upd_same] at h1
  clear hU
  walk_at "zz"
  refine s_repS 101 rfl (by decide) (by decide +kernel) (by decide +kernel) ?_
  walk_at "zz"
  refine s_add_s (by decide +kernel) ?_
  walk_at "zz"
  refine s_repS 61 rfl (by decide) (by decide +kernel) (by decide +kernel) ?_
  walk_at "zz"
  refine s_add_s (by decide +kernel) ?_
  walk_at "zz"
  intro l2 hl2
  generalize hU : L2.upd H1 l2 _ = H2
  have S2 : _root_.Z.Same H1 H2 := hU ▸ _root_.Z.same_new hl2
  have h2 := (congrFun hU l2).symm
  rw [L2.upd_same] at h2
  clear hU
  refine s_add_l (S2 _ _ h1) h2 (by decide) fun l3 hl3 => ?_
  generalize hU : L2.upd H2 l3 _ = H3
  have S3 : _root_.Z.Same H2 H3 := hU ▸ _root_.Z.same_new hl3
  have h3 := (congrFun hU l3).symm
  rw [L2.upd_same] at h3
  clear hU
  walk_at "zz"
  intro l4 hl4
  generalize hU : L2.upd H3 l4 _ = H4
  have S4 : _root_.Z.Same H3 H4 := hU ▸ _root_.Z.same_new hl4
  have h4 := (congrFun hU l4).symm
  rw [L2.upd_same] at h4
  clear hU
  refine s_add_l (S4 _ _ h3) h4 (by decide) fun l5 hl5 => ?_
  generalize hU : L2.upd H4 l5 _ = H5
  have S5 : _root_.Z.Same H4 H5 := hU ▸ _root_.Z.same_new hl5
  have h5 := (congrFun hU l5).symm
  rw [L2.upd_same] at h5
  clear hU
  walk_at "zz"
  intro l6 hl6
  generalize hU : L2.upd H5 l6 _ = H6
  have S6 : _root_.Z.Same H5 H6 := hU ▸ _root_.Z.same_new hl6
  have h6 := (congrFun hU l6).symm
  rw [L2.upd_same] at h6
  clear hU
  refine s_add_l (S6 _ _ h5) h6 (by decide) fun l7 hl7 => ?_
  generalize hU : L2.upd H6 l7 _ = H7
  have S7 : _root_.Z.Same H6 H7 := hU ▸ _root_.Z.same_new hl7
  have h7 := (congrFun hU l7).symm
  rw [L2.upd_same] at h7
  clear hU
  walk_at "zz"
  intro l8 hl8
  generalize hU : L2.upd H7 l8 _ = H8
  have S8 : _root_.Z.Same H7 H8 := hU ▸ _root_.Z.same_new hl8
  have h8 := (congrFun hU l8).symm
  rw [L2.upd_same] at h8
  clear hU
  refine s_add_l (S8 _ _ h7) h8 (by decide) fun l9 hl9 => ?_
  generalize hU : L2.upd H8 l9 _ = H9
  have S9 : _root_.Z.Same H8 H9 := hU ▸ _root_.Z.same_new hl9
  have h9 := (congrFun hU l9).symm
  rw [L2.upd_same] at h9
  clear hU
  walk_at "zz"
  intro l10 hl10
  generalize hU : L2.upd H9 l10 _ = H10
  have S10 : _root_.Z.Same H9 H10 := hU ▸ _root_.Z.same_new hl10
  have h10 := (congrFun hU l10).symm
  rw [L2.upd_same] at h10
  clear hU
  walk_at "zz"
  have S010 := (((((((((S1.trans S2).trans S3).trans S4).trans S5).trans S6).trans S7).trans S8).trans S9).trans S10)
  cases b
  · refine s_rep h10 (by decide) (by decide) fun l11 hl11 => ?_
    generalize hU : L2.upd H10 l11 _ = H11
    have S11 : _root_.Z.Same H10 H11 := hU ▸ _root_.Z.same_new hl11
    have h11 := (congrFun hU l11).symm
    rw [L2.upd_same] at h11
    clear hU
    refine s_add_l (S11 _ _ (S10 _ _ h9)) h11 (by decide) fun l12 hl12 => ?_
    exact q l12 _ ((S010.trans S11).trans (same_new hl12)) ((S010.trans S11).free hl12) upd_same
  · refine s_rep h10 (by decide) (by decide) fun l11 hl11 => ?_
    generalize hU : L2.upd H10 l11 _ = H11
    have S11 : _root_.Z.Same H10 H11 := hU ▸ _root_.Z.same_new hl11
    have h11 := (congrFun hU l11).symm
    rw [L2.upd_same] at h11
    clear hU
    refine s_add_l (S11 _ _ (S10 _ _ h9)) h11 (by decide) fun l12 hl12 => ?_
    exact q l12 _ ((S010.trans S11).trans (same_new hl12)) ((S010.trans S11).free hl12) upd_same

theorem rd_Lline_exchanged {Z : Adr} (T : Top Z) {a0 a1 a2 : V} {H : Hp} {Q : VK} {E : XK} (h : q_Lline_exchanged Z a0 a1 a2 H Q E) : t_Lline_exchanged Z (fun cls d _ H => E cls d H) ⟨fun _ H' => Q .non H', Q, fun _ _ => False, fun _ _ => False⟩ [some a0, some a1, some a2, none, none, none, none] H := by
  unfold t_Lline_exchanged
  obtain ⟨p, ll, n, hs, rs, rfl, rfl, rfl, C, PO, hr, hll, hn, P, q⟩ := h
  have big : 1000000 ≤ sizeLine := by decide
  have nl1 : ("\n" : Str).length = 1 := by decide +kernel
  have h16 := C.h16
  have h1 := C.h1
  have r1 := C.r1
  have ln := lnT_len hs rs
  have hll : H ll = some (.lst ((lnT hs rs).map V.str)) := hll
  have nll := P.nestr hll (by omega)
  have ok := (C.reads PO (by omega)).ok
  walk_at "zz"
  rw [List.length_map, ln]
  refine cl_Ldraw ⟨p, _, n, rfl, rfl, by omega, by omega, by omega, P, fun v1 H1 v10 v11 P1 B1 => ?_⟩
  obtain ⟨at_, rfl⟩ : ∃ k : Nat, v1 = (k : Int) := ⟨v1.toNat, by omega⟩
  have ha : at_ < hs.length + rs.length := by omega
  have hl1 := B1.rd nll hll
  walk_at "zz"
  refine cl_Lbad_lines ⟨_, rfl, fun lb H2 S2 nb hlb => ?_⟩
  have P2 := P1.same S2
  have hl2 := S2 _ _ hl1
  have npb : lb ≠ p := P1.ne nb
  have bl := badT_len (decide ((at_ : Int) ≤ (hs.length : Int)))
  walk_at "zz"
  rw [show ((at_ : Nat) : Int) = ((at_ : Nat) : Int) from rfl, cut_takeS]
  intro c3 hc3
  have n3 := P2.ne hc3
  generalize hU : L2.upd H2 c3 _ = H3
  have S3 : _root_.Z.Same H2 H3 := hU ▸ _root_.Z.same_new hc3
  have h3 := (congrFun hU c3).symm
  rw [L2.upd_same] at h3
  clear hU
  walk_at "zz"
  rw [List.length_map]
  refine cl_Ldraw ⟨p, _, n + 1, rfl, rfl, by omega, by omega, by omega, P2.same S3, fun v4 H4 v40 v41 P4 B4 => ?_⟩
  obtain ⟨k, rfl⟩ : ∃ k : Nat, v4 = (k : Int) := ⟨v4.toNat, by omega⟩
  have hlb4 := B4.rd npb (S3 _ _ hlb)
  obtain ⟨x, ex⟩ : ∃ x, (badT (decide ((at_ : Int) ≤ (hs.length : Int))))[k]? = some x := ⟨_, List.getElem?_eq_getElem (by omega)⟩
  have hx := List.mem_of_getElem? ex
  walk_at "zz"
  refine s_ix_l (SqL.of hlb4) (atI_nat (v := .str x) (by rw [List.getElem?_map, ex]; rfl)) ?_
  walk_at "zz"
  intro c5 hc5
  generalize hU : L2.upd H4 c5 _ = H5
  have S5 : _root_.Z.Same H4 H5 := hU ▸ _root_.Z.same_new hc5
  have h5 := (congrFun hU c5).symm
  rw [L2.upd_same] at h5
  clear hU
  refine s_add_l (S5 _ _ (B4.rd n3 h3)) h5 (by simp only [List.length_map, List.length_take, List.length_cons, List.length_nil]; omega) fun c6 hc6 => ?_
  generalize hU : L2.upd H5 c6 _ = H6
  have S6 : _root_.Z.Same H5 H6 := hU ▸ _root_.Z.same_new hc6
  have h6 := (congrFun hU c6).symm
  rw [L2.upd_same] at h6
  clear hU
  have hl6 := S6 _ _ (S5 _ _ (B4.rd nll (S3 _ _ hl2)))
  walk_at "zz"
  rw [show ((at_ : Nat) : Int) + 1 = ((at_ + 1 : Nat) : Int) by omega, cut_dropS]
  intro c7 hc7
  generalize hU : L2.upd H6 c7 _ = H7
  have S7 : _root_.Z.Same H6 H7 := hU ▸ _root_.Z.same_new hc7
  have h7 := (congrFun hU c7).symm
  rw [L2.upd_same] at h7
  clear hU
  refine s_add_l (S7 _ _ h6) h7 (by simp only [List.length_map, List.length_take, List.length_drop, List.length_append, List.length_cons, List.length_nil]; omega) fun c8 hc8 => ?_
  generalize hU : L2.upd H7 c8 _ = H8
  have S8 : _root_.Z.Same H7 H8 := hU ▸ _root_.Z.same_new hc8
  have h8 := (congrFun hU c8).symm
  rw [L2.upd_same] at h8
  clear hU
  have e8 : ((lnT hs rs).take at_).map V.str ++ [V.str x] ++ ((lnT hs rs).drop (at_ + 1)).map V.str = ((lnT hs rs).take at_ ++ x :: (lnT hs rs).drop (at_ + 1)).map V.str := by simp
  replace h8 : H8 c8 = some (.lst (((lnT hs rs).take at_ ++ x :: (lnT hs rs).drop (at_ + 1)).map V.str)) := by rw [h8]; exact congrArg (fun z => some (HO.lst z)) e8
  have S48 := (((S5.trans S6).trans S7).trans S8)
  have P8 := P4.same S48
  have hl8 := S8 _ _ (S7 _ _ hl6)
  have n8 : c8 ≠ p := ((P4.same ((S5.trans S6).trans S7))).ne hc8
  have B08 : But p H H8 := (B1.trans (But.of (S2.trans S3))).trans (B4.trans (But.of S48))
  walk_at "zz"
  rw [List.length_map, ln]
  refine cl_Ldraw ⟨p, _, n + 1 + 1, rfl, rfl, by omega, by omega, by omega, P8, fun v9 H9 v90 v91 P9 B9 => ?_⟩
  have h9 := B9.rd n8 h8
  have B09 := B08.trans B9
  have fresh8 : H c8 = none := by
    have a := ((S5.trans S6).trans S7).free hc8
    exact ((B1.trans (But.of (S2.trans S3))).trans B4).none n8 a
  have okT : LnOK ((lnT hs rs).drop (at_ + 1)) := ok.sub fun y hy => List.mem_of_mem_drop hy
  have dl : ((lnT hs rs).drop (at_ + 1)).length = hs.length + rs.length - (at_ + 1) := by rw [List.length_drop, ln]
  walk_at "zz"
  refine s_cut (fun σ' H' => ∃ tl : List Str, LnOK tl ∧ tl.length ≤ 100 ∧ But p H H' ∧ Pl (n + 10) H' p ∧ H' c8 = some (.lst (((lnT hs rs).take at_ ++ x :: tl).map V.str)) ∧ σ' = [some (.ref p), some (.ref ll), some (.int (hs.length : Int)), some (.int (at_ : Int)), some (.ref lb), some (.ref c8), some (.int ((at_ : Int) + 1 + v9))]) ?_ ?_
  · walk_at "zz"
    refine s_ifd (fun c => ?_) (fun c => ?_)
    · rw [List.length_map, List.length_append, List.length_take, List.length_cons, dl] at c
      walk_at "zz"
      intro c10 hc10
      have n10 := P9.ne hc10
      have n810 : c8 ≠ c10 := ne_of_none h9 hc10
      generalize hU : L2.upd H9 c10 _ = H10
      have S10 : _root_.Z.Same H9 H10 := hU ▸ _root_.Z.same_new hc10
      have h10 := (congrFun hU c10).symm
      rw [L2.upd_same] at h10
      clear hU
      walk_at "zz"
      refine cl_Ldraw ⟨p, 3, _, rfl, rfl, by omega, by omega, by omega, P9.same S10, fun v11 H11 v110 v111 P11 B11 => ?_⟩
      obtain ⟨w, hw, ew⟩ : ∃ w, w ∈ WBS ∧ atI (WBS.map V.str) v11 = some (.str w) := by
        obtain ⟨k, rfl⟩ : ∃ k : Nat, v11 = (k : Int) := ⟨v11.toNat, by omega⟩
        have hk : k < WBS.length := by show k < 3; omega
        exact ⟨WBS[k], List.getElem_mem _, atI_nat (by rw [List.getElem?_map, List.getElem?_eq_getElem hk]; rfl)⟩
      walk_at "zz"
      refine s_ix_l (SqL.of (B11.rd n10 h10)) ew ?_
      walk_at "zz"
      obtain ⟨m, em⟩ : ∃ m : Nat, v9 = (m : Int) := ⟨v9.toNat, by omega⟩
      have h11 := B11.rd n8 (S10 _ _ h9)
      refine c_setL (at_ + 1 + m) (((lnT hs rs).take at_ ++ x :: ((lnT hs rs).drop (at_ + 1)).set m w).map V.str) h11 ?_ ?_ fun H12 B12 h12 => ?_
      · rw [show (at_ : Int) + 1 + v9 = ((at_ + 1 + m : Nat) : Int) by omega]
        refine ixN_nat ?_
        rw [List.length_map, List.length_append, List.length_take, List.length_cons, dl, ln]
        omega
      · rw [show V.str w = V.str w from rfl, ← List.map_set, List.set_append_right _ _ (by rw [List.length_take, ln]; omega), List.length_take, ln, Nat.min_eq_left (by omega), show at_ + 1 + m - at_ = m + 1 by omega, List.set_cons_succ]
      · walk_at "zz"
        refine ⟨((lnT hs rs).drop (at_ + 1)).set m w, okT.set (WBS_ok hw), by rw [List.length_set, dl]; omega, ?_, ((P11.but B12 n8.symm).le (by omega)), h12, rfl⟩
        exact ((B09.trans (But.of S10)).trans B11).own B12 fresh8
    · walk_at "zz"
      exact ⟨_, okT, by rw [dl]; omega, B09, P9.le (by omega), h9, rfl⟩
  · rintro σ' H' ⟨tl, ht, hl2, B', P', h', rfl⟩
    have okA : LnOK ((lnT hs rs).take at_ ++ x :: tl) := (ok.sub fun y hy => List.mem_of_mem_take hy).app ⟨fun l hl => by
      rcases List.mem_cons.mp hl with z | z
      · rw [z]; exact (badT_bad hx).2.2.1
      · exact ht.nl l z, fun l hl => by
      rcases List.mem_cons.mp hl with z | z
      · rw [z]; exact (badT_bad hx).2.2.2
      · exact ht.len l z⟩
    have sl := sum_lines okA.len
    have al : ((lnT hs rs).take at_ ++ x :: tl).length ≤ 200 := by rw [List.length_append, List.length_take, List.length_cons, ln]; omega
    walk_at "zz"
    refine s_join_l (SqL.of h') (by rw [nl1]; have := Nat.mul_le_mul_right 401 al; omega) ?_
    walk_at "zz"
    intro t ht0
    exact q t _ at_ _ upd_same (fun H'' => exch_ref C PO hr ha hx ht hl2 H'') (P'.new ht0) (B'.new ht0)

theorem rd_Lno_code {Z : Adr} (T : Top Z) {a0 a1 a2 : V} {H : Hp} {Q : VK} {E : XK} (h : q_Lno_code Z a0 a1 a2 H Q E) : t_Lno_code Z (fun cls d _ H => E cls d H) ⟨fun _ H' => Q .non H', Q, fun _ _ => False, fun _ _ => False⟩ [some a0, some a1, some a2, none, none, none, none, none, none] H := by
  unfold t_Lno_code
  obtain ⟨p, ll, n, hs, rs, rfl, rfl, rfl, C, PO, hr, hll, hn, P, q⟩ := h
  have big : 1000000 ≤ sizeLine := by decide
  have nl1 : ("\n" : Str).length = 1 := by decide +kernel
  have h16 := C.h16
  have h1 := C.h1
  have r1 := C.r1
  have ln := lnT_len hs rs
  have hll : H ll = some (.lst ((lnT hs rs).map V.str)) := hll
  have nll := P.nestr hll (by omega)
  have RW := C.rwr PO (by omega)
  walk_at "zz"
  rw [List.length_map, ln, show (((hs.length + rs.length : Nat) : Int) - (hs.length : Int)) = (rs.length : Int) by omega]
  refine cl_Ldraw ⟨p, _, n, rfl, rfl, by omega, by omega, by omega, P, fun v1 H1 v10 v11 P1 B1 => ?_⟩
  walk_at "zz"
  obtain ⟨far, efar⟩ : ∃ far, far = (rs.length : Int) + v1 := ⟨_, rfl⟩
  rw [← efar]
  have far1 : (rs.length : Int) ≤ far ∧ far ≤ 1000 := by omega
  refine s_strI (lg100 (small100 (by omega))) ?_
  have sf := strI_sm (v := far) (by omega)
  have hl1 := B1.rd nll hll
  walk_at "zz"
  intro a1 ha1
  generalize hU : L2.upd H1 a1 _ = G1
  have S1 : _root_.Z.Same H1 G1 := hU ▸ _root_.Z.same_new ha1
  have g1 := (congrFun hU a1).symm
  rw [L2.upd_same] at g1
  clear hU
  walk_at "zz"
  refine s_add_s (by have : ("fun " : Str).length = 4 := by decide +kernel
                     show ("fun " : Str).length + (strI far).length ≤ sizeLine; omega) ?_
  walk_at "zz"
  refine s_add_s (by have : ("fun " : Str).length = 4 := by decide +kernel
                     have : (" 0 0" : Str).length = 4 := by decide +kernel
                     show (("fun " : Str) ++ strI far).length + (" 0 0" : Str).length ≤ sizeLine; rw [Str.length_append]; omega) ?_
  walk_at "zz"
  intro a2 ha2
  generalize hU : L2.upd G1 a2 _ = G2
  have S2 : _root_.Z.Same G1 G2 := hU ▸ _root_.Z.same_new ha2
  have g2 := (congrFun hU a2).symm
  rw [L2.upd_same] at g2
  clear hU
  walk_at "zz"
  intro a3 ha3
  generalize hU : L2.upd G2 a3 _ = G3
  have S3 : _root_.Z.Same G2 G3 := hU ▸ _root_.Z.same_new ha3
  have g3 := (congrFun hU a3).symm
  rw [L2.upd_same] at g3
  clear hU
  walk_at "zz"
  intro a4 ha4
  generalize hU : L2.upd G3 a4 _ = G4
  have S4 : _root_.Z.Same G3 G4 := hU ▸ _root_.Z.same_new ha4
  have g4 := (congrFun hU a4).symm
  rw [L2.upd_same] at g4
  clear hU
  walk_at "zz"
  intro a5 ha5
  generalize hU : L2.upd G4 a5 _ = G5
  have S5 : _root_.Z.Same G4 G5 := hU ▸ _root_.Z.same_new ha5
  have g5 := (congrFun hU a5).symm
  rw [L2.upd_same] at g5
  clear hU
  walk_at "zz"
  intro a6 ha6
  generalize hU : L2.upd G5 a6 _ = G6
  have S6 : _root_.Z.Same G5 G6 := hU ▸ _root_.Z.same_new ha6
  have g6 := (congrFun hU a6).symm
  rw [L2.upd_same] at g6
  clear hU
  walk_at "zz"
  refine s_rep g6 (by decide) (by decide) fun a7 ha7 => ?_
  generalize hU : L2.upd G6 a7 _ = G7
  have S7 : _root_.Z.Same G6 G7 := hU ▸ _root_.Z.same_new ha7
  have g7 := (congrFun hU a7).symm
  rw [L2.upd_same] at g7
  clear hU
  walk_at "zz"
  intro a8 ha8
  generalize hU : L2.upd G7 a8 _ = G8
  have S8 : _root_.Z.Same G7 G8 := hU ▸ _root_.Z.same_new ha8
  have g8 := (congrFun hU a8).symm
  rw [L2.upd_same] at g8
  clear hU
  walk_at "zz"
  intro b1 hb1
  generalize hU : L2.upd G8 b1 _ = K1
  have T1 : _root_.Z.Same G8 K1 := hU ▸ _root_.Z.same_new hb1
  have k1 := (congrFun hU b1).symm
  rw [L2.upd_same] at k1
  clear hU
  walk_at "zz"
  intro b2 hb2
  generalize hU : L2.upd K1 b2 _ = K2
  have T2 : _root_.Z.Same K1 K2 := hU ▸ _root_.Z.same_new hb2
  have k2 := (congrFun hU b2).symm
  rw [L2.upd_same] at k2
  clear hU
  walk_at "zz"
  intro b3 hb3
  generalize hU : L2.upd K2 b3 _ = K3
  have T3 : _root_.Z.Same K2 K3 := hU ▸ _root_.Z.same_new hb3
  have k3 := (congrFun hU b3).symm
  rw [L2.upd_same] at k3
  clear hU
  walk_at "zz"
  intro b4 hb4
  generalize hU : L2.upd K3 b4 _ = K4
  have T4 : _root_.Z.Same K3 K4 := hU ▸ _root_.Z.same_new hb4
  have k4 := (congrFun hU b4).symm
  rw [L2.upd_same] at k4
  clear hU
  walk_at "zz"
  intro b5 hb5
  generalize hU : L2.upd K4 b5 _ = K5
  have T5 : _root_.Z.Same K4 K5 := hU ▸ _root_.Z.same_new hb5
  have k5 := (congrFun hU b5).symm
  rw [L2.upd_same] at k5
  clear hU
  have ST := (((T1.trans T2).trans T3).trans T4).trans T5
  refine s_add_l (ST _ _ g8) k5 (by show 6 + 4 ≤ sizeLine; decide) fun b6 hb6 => ?_
  generalize hU : L2.upd K5 b6 _ = K6
  have T6 : _root_.Z.Same K5 K6 := hU ▸ _root_.Z.same_new hb6
  have k6 := (congrFun hU b6).symm
  rw [L2.upd_same] at k6
  clear hU
  have fun0 : ("fun " : Str) ++ strI far ++ (" 0 0" : Str) = Txt.join " " (hdTx [far, 0, 0]) := by
    rw [hd_join]
    apply str_ext
    simp only [Str.cps_append, Array.toList_append]
    rw [show ("fun " : Str).cps.toList = ("fun" : Str).cps.toList ++ (" " : Str).cps.toList by decide +kernel, show (" 0 0" : Str).cps.toList = (" " : Str).cps.toList ++ ((strI 0).cps.toList ++ ((" " : Str).cps.toList ++ (strI 0).cps.toList)) by decide +kernel]
    simp only [List.append_assoc]
  have rowH : Row (LnsAt K6) (HH far) [.ref a1, .ref a2, .ref a3, .ref a4, .ref a5, .ref a7, .ref b1, .ref b2, .ref b3, .ref b4] := by
    have U1 := ((((((S2.trans S3).trans S4).trans S5).trans S6).trans S7).trans S8).trans (ST.trans T6)
    have U2 := (((((S3.trans S4).trans S5).trans S6).trans S7).trans S8).trans (ST.trans T6)
    have U3 := ((((S4.trans S5).trans S6).trans S7).trans S8).trans (ST.trans T6)
    have U4 := (((S5.trans S6).trans S7).trans S8).trans (ST.trans T6)
    have U5 := ((S6.trans S7).trans S8).trans (ST.trans T6)
    have U7 := S8.trans (ST.trans T6)
    refine .cons ⟨a1, rfl, U1 _ _ g1⟩ (.cons ⟨a2, rfl, ?_⟩ (.cons ⟨a3, rfl, U3 _ _ g3⟩ (.cons ⟨a4, rfl, U4 _ _ g4⟩ (.cons ⟨a5, rfl, U5 _ _ g5⟩ (.cons ⟨a7, rfl, U7 _ _ g7⟩ (.cons ⟨b1, rfl, (((T2.trans T3).trans T4).trans (T5.trans T6)) _ _ k1⟩ (.cons ⟨b2, rfl, ((T3.trans T4).trans (T5.trans T6)) _ _ k2⟩ (.cons ⟨b3, rfl, (T4.trans (T5.trans T6)) _ _ k3⟩ (.cons ⟨b4, rfl, (T5.trans T6) _ _ k4⟩ .nil)))))))))
    rw [U2 _ _ g2]
    exact congrArg (fun z => some (HO.lst [V.str z])) fun0
  have S06 : Same H1 K6 := (((((((S1.trans S2).trans S3).trans S4).trans S5).trans S6).trans S7).trans S8).trans (ST.trans T6)
  have P6 := P1.same S06
  have hl6 := S06 _ _ hl1
  clear g1 g2 g3 g4 g5 g6 g7 g8 k1 k2 k3 k4 k5
  have nb6 := ((P1.same ((((((((S1.trans S2).trans S3).trans S4).trans S5).trans S6).trans S7).trans S8).trans ST))).ne hb6
  clear S1 S2 S3 S4 S5 S6 S7 S8 T1 T2 T3 T4 T5 T6 ST
  walk_at "zz"
  refine s_add_s (by have : ("jump " : Str).length = 5 := by decide +kernel
                     show ("jump " : Str).length + (strI far).length ≤ sizeLine; omega) ?_
  walk_at "zz"
  refine cl_Ldraw ⟨p, 5, _, rfl, rfl, by omega, by omega, by omega, P6, fun v2 H2 v20 v21 P2 B2 => ?_⟩
  walk_at "zz"
  obtain ⟨c, ec⟩ : ∃ c, c = (hs.length : Int) + v2 := ⟨_, rfl⟩
  rw [← ec]
  have c1 : (hs.length : Int) ≤ c ∧ c ≤ 1000 := by omega
  refine s_strI (lg100 (small100 (by omega))) ?_
  have sc := strI_sm (v := c) (by omega)
  walk_at "zz"
  refine s_add_s (by have : ("call " : Str).length = 5 := by decide +kernel
                     show ("call " : Str).length + (strI c).length ≤ sizeLine; omega) ?_
  walk_at "zz"
  intro d1 hd1
  generalize hU : L2.upd H2 d1 _ = H3
  have S3 : _root_.Z.Same H2 H3 := hU ▸ _root_.Z.same_new hd1
  have d1' := (congrFun hU d1).symm
  rw [L2.upd_same] at d1'
  clear hU
  walk_at "zz"
  refine s_add_s (by have : ("unless " : Str).length = 7 := by decide +kernel
                     show ("unless " : Str).length + (strI far).length ≤ sizeLine; omega) ?_
  walk_at "zz"
  intro d2 hd2
  generalize hU : L2.upd H3 d2 _ = H4
  have S4 : _root_.Z.Same H3 H4 := hU ▸ _root_.Z.same_new hd2
  have d2' := (congrFun hU d2).symm
  rw [L2.upd_same] at d2'
  clear hU
  refine s_add_l (S4 _ _ d1') d2' (by show 6 + 6 ≤ sizeLine; decide) fun d3 hd3 => ?_
  generalize hU : L2.upd H4 d3 _ = H5
  have S5 : _root_.Z.Same H4 H5 := hU ▸ _root_.Z.same_new hd3
  have d3' := (congrFun hU d3).symm
  rw [L2.upd_same] at d3'
  clear hU
  have eBR : H5 d3 = some (.lst (((BR far c).map fun x => Txt.join " " (rwTx x)).map V.str)) := by
    rw [d3']
    have j1 : ("jump " : Str) ++ strI far = Txt.join " " (rwTx [4, far]) := by rw [← num_join (w := "jump") rfl]; rfl
    have j2 : ("call " : Str) ++ strI c = Txt.join " " (rwTx [6, c]) := by rw [← num_join (w := "call") rfl]; rfl
    have j3 : ("unless " : Str) ++ strI far = Txt.join " " (rwTx [5, far]) := by rw [← num_join (w := "unless") rfl]; rfl
    show some (HO.lst [.str (("jump " : Str) ++ strI far), _, .str (("call " : Str) ++ strI c), _, _, _, _, _, _, _, .str (("unless " : Str) ++ strI far), _]) = _
    rw [j1, j2, j3]
    rfl
  have S25 := (S3.trans S4).trans S5
  have P5 := P2.same S25
  have nd3 : d3 ≠ p := P5.neS eBR
  have rowH5 := row_lnsS (row_lns rowH P6 B2) S25
  have k65 := S25 _ _ (B2.rd nb6 k6)
  have hl5 := S25 _ _ (B2.rd nll hl6)
  have B05 : But p H H5 := (B1.trans (But.of S06)).trans (B2.trans (But.of S25))
  clear d3' d2' d1'
  walk_at "zz"
  refine cl_Ldraw ⟨p, 3, _, rfl, rfl, by omega, by omega, by omega, P5, fun v3 H6 v30 v31 P6' B6 => ?_⟩
  have rowH6 := row_lns rowH5 P5 B6
  have k66 := B6.rd nb6 k65
  have hl66 := B6.rd nll hl5
  have eBR6 := B6.rd nd3 eBR
  have B06 := B05.trans B6
  walk_at "zz"
  refine s_ifd (fun cc => ?_) (fun cc => ?_)
  · walk_at "zz"
    refine cl_Ldraw ⟨p, 10, _, rfl, rfl, by omega, by omega, by omega, P6', fun v4 H7 v40 v41 P7 B7 => ?_⟩
    have rowH7 := row_lns rowH6 P6' B7
    have k67 := B7.rd nb6 k66
    have hl7 := B7.rd nll hl66
    obtain ⟨k, rfl⟩ : ∃ k : Nat, v4 = (k : Int) := ⟨v4.toNat, by omega⟩
    have hk : k < (HH far).length := by show k < 10; omega
    obtain ⟨v, ev, l, rfl, hl⟩ := rowH7.get (List.getElem?_eq_getElem hk)
    obtain ⟨hx1, hx2, hx3⟩ := HH_ok far1 (List.getElem_mem hk)
    generalize (HH far)[k] = hx at *
    walk_at "zz"
    refine s_ix_l (SqL.of k67) (atI_nat ev) ?_
    walk_at "zz"
    rw [cut_dropS, lnT_drop]
    intro e1 he1
    generalize hU : L2.upd H7 e1 _ = H8
    have S8 : _root_.Z.Same H7 H8 := hU ▸ _root_.Z.same_new he1
    have h8 := (congrFun hU e1).symm
    rw [L2.upd_same] at h8
    clear hU
    refine s_add_l (S8 _ _ hl) h8 (by simp only [List.length_map, lnT_len, List.length_nil]; omega) fun e2 he2 => ?_
    generalize hU : L2.upd H8 e2 _ = H9
    have S9 : _root_.Z.Same H8 H9 := hU ▸ _root_.Z.same_new he2
    have h9 := (congrFun hU e2).symm
    rw [L2.upd_same] at h9
    clear hU
    rw [← List.map_append, lnT_app] at h9
    walk_at "zz"
    refine s_join_l (SqL.of h9) (lines_fit (lnT_fit hx1 RW.1) (by rw [lnT_len]; omega)) ?_
    exact q _ _ (nocode_of hx1 RW.1 (by omega) (by omega) hx2) (((P7.same S8).same S9).le (by omega)) ((B06.trans B7).trans (But.of (S8.trans S9)))
  walk_at "zz"
  refine s_ifd (fun cc2 => ?_) (fun cc2 => ?_)
  · walk_at "zz"
    rw [cut_takeS, lnT_take]
    intro e1 he1
    generalize hU : L2.upd H6 e1 _ = H8
    have S8 : _root_.Z.Same H6 H8 := hU ▸ _root_.Z.same_new he1
    have h8 := (congrFun hU e1).symm
    rw [L2.upd_same] at h8
    clear hU
    walk_at "zz"
    refine s_join_l (SqL.of h8) (lines_fit (lnT_fit RW.2 (fun x hx => by cases hx)) (by rw [lnT_len, List.length_nil]; omega)) ?_
    exact q _ _ (nocode_of RW.2 (fun x hx => by cases hx) (by omega) (by rw [List.length_nil]; omega) (fun C => by have := C.r1; simp at this)) ((P6'.same S8).le (by omega)) (B06.trans (But.of S8))
  walk_at "zz"
  refine cl_Ldraw ⟨p, _, _, rfl, rfl, by omega, by omega, by omega, P6', fun v4 H7 v40 v41 P7 B7 => ?_⟩
  obtain ⟨j, rfl⟩ : ∃ k : Nat, v4 = (k : Int) := ⟨v4.toNat, by omega⟩
  have hl7 := B7.rd nll hl66
  have eBR7 := B7.rd nd3 eBR6
  walk_at "zz"
  rw [show (hs.length : Int) + (j : Int) = ((hs.length + j : Nat) : Int) by omega, cut_takeS]
  intro e1 he1
  have ne1 := P7.ne he1
  generalize hU : L2.upd H7 e1 _ = H8
  have S8 : _root_.Z.Same H7 H8 := hU ▸ _root_.Z.same_new he1
  have h8 := (congrFun hU e1).symm
  rw [L2.upd_same] at h8
  clear hU
  walk_at "zz"
  refine cl_Ldraw ⟨p, 12, _, rfl, rfl, by omega, by omega, by omega, P7.same S8, fun v5 H9 v50 v51 P9 B9 => ?_⟩
  obtain ⟨k, rfl⟩ : ∃ k : Nat, v5 = (k : Int) := ⟨v5.toNat, by omega⟩
  have hk : k < (BR far c).length := by show k < 12; omega
  have bad := BR_ok (fs := hs.length) (m := rs.length) far1 c1 (List.getElem_mem hk)
  have ebad : (((BR far c).map fun x => Txt.join " " (rwTx x)).map V.str)[k]? = some (.str (Txt.join " " (rwTx (BR far c)[k]))) := by
    rw [List.getElem?_map, List.getElem?_map, List.getElem?_eq_getElem hk]; rfl
  generalize (BR far c)[k] = bx at *
  have eBR9 := B9.rd nd3 (S8 _ _ eBR7)
  have hl9 := B9.rd nll (S8 _ _ hl7)
  walk_at "zz"
  refine s_ix_l (SqL.of eBR9) (atI_nat ebad) ?_
  walk_at "zz"
  intro e2 he2
  generalize hU : L2.upd H9 e2 _ = H10
  have S10 : _root_.Z.Same H9 H10 := hU ▸ _root_.Z.same_new he2
  have h10 := (congrFun hU e2).symm
  rw [L2.upd_same] at h10
  clear hU
  refine s_add_l (S10 _ _ (B9.rd ne1 h8)) h10 (by simp only [List.length_map, List.length_take, List.length_cons, List.length_nil]; omega) fun e3 he3 => ?_
  generalize hU : L2.upd H10 e3 _ = H11
  have S11 : _root_.Z.Same H10 H11 := hU ▸ _root_.Z.same_new he3
  have h11 := (congrFun hU e3).symm
  rw [L2.upd_same] at h11
  clear hU
  have hl11 := S11 _ _ (S10 _ _ hl9)
  walk_at "zz"
  rw [show ((hs.length + j : Nat) : Int) + 1 = ((hs.length + j + 1 : Nat) : Int) by omega, cut_dropS]
  intro e4 he4
  generalize hU : L2.upd H11 e4 _ = H12
  have S12 : _root_.Z.Same H11 H12 := hU ▸ _root_.Z.same_new he4
  have h12 := (congrFun hU e4).symm
  rw [L2.upd_same] at h12
  clear hU
  refine s_add_l (S12 _ _ h11) h12 (by simp only [List.length_map, List.length_take, List.length_drop, List.length_append, List.length_cons, List.length_nil, ln]; omega) fun e5 he5 => ?_
  generalize hU : L2.upd H12 e5 _ = H13
  have S13 : _root_.Z.Same H12 H13 := hU ▸ _root_.Z.same_new he5
  have h13 := (congrFun hU e5).symm
  rw [L2.upd_same] at h13
  clear hU
  have e13 : List.map V.str (List.take (hs.length + j) (lnT hs rs)) ++ [V.str (Txt.join " " (rwTx bx))] ++ List.map V.str (List.drop (hs.length + j + 1) (lnT hs rs)) = (lnT hs (rs.take j ++ [bx] ++ rs.drop (j + 1))).map V.str := by
    rw [← lnT_bend]
    simp
  replace h13 : H13 e5 = some (.lst ((lnT hs (rs.take j ++ [bx] ++ rs.drop (j + 1))).map V.str)) := by rw [h13]; exact congrArg (fun z => some (HO.lst z)) e13
  have rl : (rs.take j ++ [bx] ++ rs.drop (j + 1)).length = rs.length := by
    rw [List.length_append, List.length_append, List.length_take, List.length_drop, List.length_singleton]; omega
  have rr : ∀ x ∈ rs.take j ++ [bx] ++ rs.drop (j + 1), RwR x := fun x hx => by
    rcases List.mem_append.mp hx with z | z
    · rcases List.mem_append.mp z with z | z
      · exact RW.1 x (List.mem_of_mem_take z)
      · rw [List.mem_singleton.mp z]; exact bad.1
    · exact RW.1 x (List.mem_of_mem_drop z)
  walk_at "zz"
  refine s_join_l (SqL.of h13) (lines_fit (lnT_fit RW.2 rr) (by rw [lnT_len, rl]; omega)) ?_
  have S913 := ((S10.trans S11).trans S12).trans S13
  exact q _ _ (nocode_of RW.2 rr (by omega) (by rw [rl]; omega) (bent_rows (by omega) bad.2)) ((P9.same S913).le (by omega)) (((B06.trans B7).trans (But.of S8)).trans (B9.trans (But.of S913)))

theorem rd_law {Z : Adr} (T : Top Z) {a0 : V} {H : Hp} {Q : VK} {E : XK} (h : q_law Z a0 H Q E) : t_law Z (fun cls d _ H => E cls d H) ⟨fun _ H' => Q .non H', Q, fun _ _ => False, fun _ _ => False⟩ [some a0, none, none, none, none, none, none, none, none] H := by
  unfold t_law
  obtain ⟨a, ns, rfl, hO, hS, hns, q⟩ := h
  have big : 16777216 ≤ sizeLine := by decide
  have nl1 : ("\n" : Str).length = 1 := by decide +kernel
  walk_at "zz"
  refine loop_range (fun i σ' H' => Same H H' ∧ ∃ x1 x2 x3 x4 x5 x6 x7 x8 : Option V, σ' = [some (V.ref a), x1, x2, x3, x4, x5, x6, x7, x8]) ⟨Same.refl H, _, _, _, _, _, _, _, _, rfl⟩ ?_ ?_
  · rintro i σ' H1 hi ⟨S1, x1, x2, x3, x4, x5, x6, x7, x8, rfl⟩
    have hi3 : i < 2 := hi
    rw [show (0 : Int) + (i : Int) = i by omega]
    walk_at "zz"
    refine cl_Lpen ⟨a, ns, i, rfl, rfl, by omega, hS.same S1, fun p H2 S2 hp0 P2 => ?_⟩
    have hpH := S1.free hp0
    walk_at "zz"
    refine cl_Lcode ⟨p, 0, 4, 4, 12, rfl, rfl, rfl, rfl, by omega, by omega, by omega, by omega, by omega, by omega, by omega, P2, fun t lc ll hs rs H3 C PO hr ht hlc hll P3 B3 => ?_⟩
    have S03 : Same H H3 := same_own (S1.trans S2) B3 hpH
    have hll : H3 ll = some (.lst ((lnT hs rs).map V.str)) := hll
    have nlc : lc ≠ p := by
      obtain ⟨c1, c2, c3, _, _, _, hp⟩ := P3
      refine ne_of hlc hp fun z => ?_
      have := C.h1
      have := C.r1
      injection z with z
      have := congrArg List.length z
      rw [List.length_map, codeL_len C] at this
      simp only [List.length_cons, List.length_nil] at this
      omega
    refine s_gun_t (SqT.of ht) rfl ?_
    walk_at "zz"
    refine loop_range (fun j σ' H' => But p H3 H' ∧ Pl (2000 + 20 * (j : Int)) H' p ∧ ∃ x5 x6 x7 : Option V, σ' = [some (V.ref a), some (.int (i : Int)), some (.ref p), some (.ref lc), some (.ref ll), x5, x6, x7, x8]) ⟨But.refl _ _, P3.le (by omega), _, _, _, rfl⟩ ?_ ?_
    · rintro j σ' H4 hj ⟨B4, P4, x5, x6, x7, rfl⟩
      have hj5 : j < 5 := hj
      have hll4 := B4.rd (P3.neS hll) hll
      have hlc4 := B4.rd nlc hlc
      have ec : atI ((codeL hs rs).map V.int) 0 = some (.int (hs.length : Int)) := at_of (j := 0) (by decide) rfl
      walk_at "zz"
      refine s_ix_l (SqL.of hlc4) ec ?_
      walk_at "zz"
      refine cl_Lline_exchanged ⟨p, ll, _, hs, rs, rfl, rfl, rfl, C, PO, hr, hll4, by omega, P4, fun t2 tx k H5 ht2 R5 P5 B5 => ?_⟩
      have hlc5 := B5.rd nlc hlc4
      have hll5 := B5.rd (P4.neS hll4) hll4
      refine s_gun_t (SqT.of ht2) rfl ?_
      walk_at "zz"
      refine cl_Lcaught ⟨_, .inl ⟨k, R5 _, rfl⟩, fun H6 S6 => ?_⟩
      walk_at "zz"
      refine s_nft rfl ?_
      have hlc6 := S6 _ _ hlc5
      have hll6 := S6 _ _ hll5
      walk_at "zz"
      refine s_ix_l (SqL.of hlc6) ec ?_
      walk_at "zz"
      refine cl_Lno_code ⟨p, ll, _, hs, rs, rfl, rfl, rfl, C, PO, hr, hll6, by omega, P5.same S6, fun tx2 H7 R7 P7 B7 => ?_⟩
      walk_at "zz"
      refine cl_Lcaught ⟨_, .inr ⟨R7, rfl⟩, fun H8 S8 => ?_⟩
      walk_at "zz"
      refine s_nft rfl ?_
      walk_at "zz"
      exact ⟨(((B4.trans B5).trans (But.of S6)).trans B7).trans (But.of S8), (P7.same S8).le (by omega), _, _, _, rfl⟩
    rintro σ' H4 ⟨B4, P4, x5, x6, x7, rfl⟩
    have hll4 := B4.rd (P3.neS hll) hll
    have hlc4 := B4.rd nlc hlc
    have RW := C.rwr PO (by omega)
    have h16 := C.h16
    have fit := lines_fit (lnT_fit RW.2 RW.1) (by rw [lnT_len]; omega)
    have tl : (codeTx hs rs).length ≤ 900000 := code_len C PO (by omega)
    walk_at "zz"
    refine s_join_l (SqL.of hll4) fit ?_
    walk_at "zz"
    refine s_add_s (by rw [nl1]; show (codeTx hs rs).length + 1 ≤ sizeLine; omega) ?_
    walk_at "zz"
    refine cl_Lcaught ⟨_, .inl ⟨_, more_ref C PO (by omega) H4, rfl⟩, fun H5 S5 => ?_⟩
    have hll5 := S5 _ _ hll4
    have hlc5 := S5 _ _ hlc4
    walk_at "zz"
    rw [List.length_map, lnT_len]
    refine s_nft rfl ?_
    walk_at "zz"
    refine s_join_l (SqL.of hll5) fit ?_
    have tx : Txt.join "\n" (lnT hs rs) = codeTx hs rs := rfl
    rw [tx]
    walk_at "zz"
    refine cl_read_code (.inl ⟨codeTx hs rs, hs, rs, rfl, ⟨tl, ?_⟩, read_codeT C PO (by omega), C, fun l H6 S6 hl0 hl => ?_⟩)
    · have e := linesC_join (ls := lnT hs rs) (by intro z; have := congrArg List.length z; rw [lnT_len, List.length_nil] at this; have := C.h1; omega) (C.reads PO (by omega)).ok.nl
      rw [← tx, e, List.length_map, lnT_len]
      omega
    · have hlc6 := S6 _ _ hlc5
      walk_at "zz"
      have sh : Sh 2 (.list ((codeL hs rs).map PyData.int)) := Sh.list (n := 1) fun d hd => sh_ints _ d hd
      refine s_ne_d (d := .list ((codeL hs rs).map PyData.int)) (e := .list ((codeL hs rs).map PyData.int)) (.lst (SqL.of hl) (dp_ints _)) (.lst (SqL.of hlc6) (dp_ints _)) (sh.shaped (by decide)) (sh.shaped (by decide)) ?_
      rw [sh.refl]
      walk_at "zz"
      exact ⟨((same_own S03 B4 hpH).trans S5).trans S6, _, _, _, _, _, _, _, _, rfl⟩
  rintro σ' H1 ⟨S1, x1, x2, x3, x4, x5, x6, x7, x8, rfl⟩
  walk_at "zz"
  intro a1 ha1
  generalize hU : L2.upd H1 a1 _ = G1
  have T1 : _root_.Z.Same H1 G1 := hU ▸ _root_.Z.same_new ha1
  have g1 := (congrFun hU a1).symm
  rw [L2.upd_same] at g1
  clear hU
  walk_at "zz"
  intro a2 ha2
  generalize hU : L2.upd G1 a2 _ = G2
  have T2 : _root_.Z.Same G1 G2 := hU ▸ _root_.Z.same_new ha2
  have g2 := (congrFun hU a2).symm
  rw [L2.upd_same] at g2
  clear hU
  walk_at "zz"
  intro a3 ha3
  generalize hU : L2.upd G2 a3 _ = G3
  have T3 : _root_.Z.Same G2 G3 := hU ▸ _root_.Z.same_new ha3
  have g3 := (congrFun hU a3).symm
  rw [L2.upd_same] at g3
  clear hU
  walk_at "zz"
  intro a4 ha4
  generalize hU : L2.upd G3 a4 _ = G4
  have T4 : _root_.Z.Same G3 G4 := hU ▸ _root_.Z.same_new ha4
  have g4 := (congrFun hU a4).symm
  rw [L2.upd_same] at g4
  clear hU
  walk_at "zz"
  intro a5 ha5
  generalize hU : L2.upd G4 a5 _ = G5
  have T5 : _root_.Z.Same G4 G5 := hU ▸ _root_.Z.same_new ha5
  have g5 := (congrFun hU a5).symm
  rw [L2.upd_same] at g5
  clear hU
  walk_at "zz"
  refine loop_list _ (fun i σ' H' => Same G5 H' ∧ ∃ x1 x2 x3 x4 x5 x6 x7 x8 : Option V, σ' = [some (V.ref a), x1, x2, x3, x4, x5, x6, x7, x8]) ⟨Same.refl _, _, _, _, _, _, _, _, _, rfl⟩ (fun i σ' H' hi z => SqL.of (z.1 _ _ g5)) ?_ ?_
  · rintro i x σ' H6 hx ⟨S6, x1, x2, x3, x4, x5, x6, x7, x8, rfl⟩
    have hx := List.mem_of_getElem? hx
    have ref : RefT H6 x 0 := by
      simp only [List.mem_cons, List.not_mem_nil, or_false] at hx
      rcases hx with e | e | e | e | e | e | e | e <;> subst e
      · exact .inl ⟨.inl rfl, rfl⟩
      · exact .inl ⟨.inr (.inl ⟨_, rfl⟩), rfl⟩
      · exact .inl ⟨.inr (.inr (.inl ⟨_, rfl⟩)), rfl⟩
      · exact .inl ⟨.inr (.inr (.inr (.inl ⟨_, _, rfl, S6 _ _ (T5 _ _ (T4 _ _ (T3 _ _ (T2 _ _ g1))))⟩))), rfl⟩
      · exact .inl ⟨.inr (.inr (.inr (.inl ⟨_, _, rfl, S6 _ _ (T5 _ _ (T4 _ _ (T3 _ _ g2)))⟩))), rfl⟩
      · exact .inl ⟨.inr (.inr (.inr (.inr (.inl ⟨_, _, rfl, S6 _ _ (T5 _ _ (T4 _ _ g3))⟩)))), rfl⟩
      · exact .inl ⟨.inr (.inr (.inr (.inr (.inr ⟨_, _, rfl, S6 _ _ (T5 _ _ g4)⟩)))), rfl⟩
      · exact .inr ⟨"", rfl, by unfold Fits; decide +kernel, by rfl⟩
    walk_at "zz"
    refine cl_Lcaught ⟨_, .inl ⟨0, ref, rfl⟩, fun H7 S7 => ?_⟩
    walk_at "zz"
    refine s_nft rfl ?_
    walk_at "zz"
    exact ⟨S6.trans S7, _, _, _, _, _, _, _, _, rfl⟩
  rintro σ' H6 ⟨S6, x1, x2, x3, x4, x5, x6, x7, x8, rfl⟩
  walk_at "zz"
  exact q _

theorem sc_NoText_init : FnScope nm_NoText_init ["self", "at"] (defScope st_NoText_init) := ⟨rfl, rfl, rfl, by decide +kernel, rfl, by decide +kernel, by decide +kernel⟩
theorem ok_NoText_init {P : Program} {base : Heap} {Z : Adr} (T : Top Z)  : FnOk P Z.w Z.K Z.mg base (L2.CX P Z.w) 1 Z.f_NoText_init Z.d_NoText_init ["self", "at"] (sp_NoText_init Z) := by
  refine FnOk.mono (T.F_NoText_init.okX (k := 0) sc_NoText_init (fun vs H Q E h => ?_) (fun cdv A outer s H vs Q E hr h => ?_)) (by decide)
  · obtain ⟨a0, a1, rfl, _⟩ := h; rfl
  · obtain ⟨a0, a1, rfl, h⟩ := h
    have tk : Takes (cxOf (L2.CX P Z.w) P Z.w Z.K Z.mg base nm_NoText_init "NoText.__init__" (defScope st_NoText_init) Z.f_NoText_init cdv A outer s H E) (fun cls d _ H => E cls d H) := takes_of rfl rfl rfl rfl
    have po : PassesOwn (model P Z.w) (cxOf (L2.CX P Z.w) P Z.w Z.K Z.mg base nm_NoText_init "NoText.__init__" (defScope st_NoText_init) Z.f_NoText_init cdv A outer s H E).A (cxOf (L2.CX P Z.w) P Z.w Z.K Z.mg base nm_NoText_init "NoText.__init__" (defScope st_NoText_init) Z.f_NoText_init cdv A outer s H E).env (cxOf (L2.CX P Z.w) P Z.w Z.K Z.mg base nm_NoText_init "NoText.__init__" (defScope st_NoText_init) Z.f_NoText_init cdv A outer s H E).xe := passes_of rfl
    refine ⟨t_NoText_init Z (fun cls d _ H => E cls d H), ?_, rd_NoText_init T h⟩
    exact (pss_cons (ps_expr (pe_cinit rfl T.g_ChainError T.ri_ChainError T.rs_ChainError T.rv_ChainError (pa_cons (pv 0) (pa_cons pe_str pa_nil))))
      (pss_one (ps_ost (pv 0) (pv 1) rfl)))

theorem sc_is_whole : FnScope nm_is_whole ["thing"] (defScope st_is_whole) := ⟨rfl, rfl, rfl, by decide +kernel, rfl, by decide +kernel, by decide +kernel⟩
theorem ok_is_whole {P : Program} {base : Heap} {Z : Adr} (T : Top Z)  : FnOk P Z.w Z.K Z.mg base (L2.CX P Z.w) 1 Z.f_is_whole Z.d_is_whole ["thing"] (sp_is_whole Z) := by
  refine FnOk.mono (T.F_is_whole.okX (k := 0) sc_is_whole (fun vs H Q E h => ?_) (fun cdv A outer s H vs Q E hr h => ?_)) (by decide)
  · obtain ⟨a0, rfl, _⟩ := h; rfl
  · obtain ⟨a0, rfl, h⟩ := h
    have tk : Takes (cxOf (L2.CX P Z.w) P Z.w Z.K Z.mg base nm_is_whole "is_whole" (defScope st_is_whole) Z.f_is_whole cdv A outer s H E) (fun cls d _ H => E cls d H) := takes_of rfl rfl rfl rfl
    have po : PassesOwn (model P Z.w) (cxOf (L2.CX P Z.w) P Z.w Z.K Z.mg base nm_is_whole "is_whole" (defScope st_is_whole) Z.f_is_whole cdv A outer s H E).A (cxOf (L2.CX P Z.w) P Z.w Z.K Z.mg base nm_is_whole "is_whole" (defScope st_is_whole) Z.f_is_whole cdv A outer s H E).env (cxOf (L2.CX P Z.w) P Z.w Z.K Z.mg base nm_is_whole "is_whole" (defScope st_is_whole) Z.f_is_whole cdv A outer s H E).xe := passes_of rfl
    refine ⟨t_is_whole Z (fun cls d _ H => E cls d H), ?_, rd_is_whole T h⟩
    exact (pss_one (ps_ret (pe_and (pe_callB call_isi' (by rfl) T.n_isinstance (by decide +kernel) (pa_cons (pv 0) (pa_cons (pe_bltn (by rfl) T.n_int (by decide +kernel) rfl) pa_nil))) (pe_one (pe_not (pe_callB call_isi' (by rfl) T.n_isinstance (by decide +kernel) (pa_cons (pv 0) (pa_cons (pe_bltn (by rfl) T.n_bool (by decide +kernel) rfl) pa_nil))))))))

theorem sc_are_wholes : FnScope nm_are_wholes ["things", "many"] (defScope st_are_wholes) := ⟨rfl, rfl, rfl, by decide +kernel, rfl, by decide +kernel, by decide +kernel⟩
theorem ok_are_wholes {P : Program} {base : Heap} {Z : Adr} (T : Top Z) (G_is_whole : FnOk P Z.w Z.K Z.mg base (L2.CX P Z.w) 1 Z.f_is_whole Z.d_is_whole ["thing"] (sp_is_whole Z)) : FnOk P Z.w Z.K Z.mg base (L2.CX P Z.w) 2 Z.f_are_wholes Z.d_are_wholes ["things", "many"] (sp_are_wholes Z) := by
  refine FnOk.mono (T.F_are_wholes.okX (k := 1) sc_are_wholes (fun vs H Q E h => ?_) (fun cdv A outer s H vs Q E hr h => ?_)) (by decide)
  · obtain ⟨a0, a1, rfl, _⟩ := h; rfl
  · obtain ⟨a0, a1, rfl, h⟩ := h
    have tk : Takes (cxOf (L2.CX P Z.w) P Z.w Z.K Z.mg base nm_are_wholes "are_wholes" (defScope st_are_wholes) Z.f_are_wholes cdv A outer s H E) (fun cls d _ H => E cls d H) := takes_of rfl rfl rfl rfl
    have po : PassesOwn (model P Z.w) (cxOf (L2.CX P Z.w) P Z.w Z.K Z.mg base nm_are_wholes "are_wholes" (defScope st_are_wholes) Z.f_are_wholes cdv A outer s H E).A (cxOf (L2.CX P Z.w) P Z.w Z.K Z.mg base nm_are_wholes "are_wholes" (defScope st_are_wholes) Z.f_are_wholes cdv A outer s H E).env (cxOf (L2.CX P Z.w) P Z.w Z.K Z.mg base nm_are_wholes "are_wholes" (defScope st_are_wholes) Z.f_are_wholes cdv A outer s H E).xe := passes_of rfl
    refine ⟨t_are_wholes Z (fun cls d _ H => E cls d H), ?_, rd_are_wholes T h⟩
    exact (pss_cons (ps_if (PW.pt (pw_or (pt_not (pt_val (pe_callB call_isi' (by rfl) T.n_isinstance (by decide +kernel) (pa_cons (pv 0) (pa_cons (pe_tup (pa_cons (pe_bltn (by rfl) T.n_list (by decide +kernel) rfl) (pa_cons (pe_bltn (by rfl) T.n_tuple (by decide +kernel) rfl) pa_nil))) pa_nil))))) (pw_or1 (pt_cmpR (op_neU (hr.units)) (pe_callB call_len' (by rfl) T.n_len (by decide +kernel) (pa_cons (pv 0) pa_nil)) (pv 1) (nomark _))))) (pss_one (ps_ret pe_bl)) pss_nil)
      (pss_one (ps_ret (pe_callB (cr_all rfl) (by rfl) T.n_all (by decide +kernel) (pa_cons (pe_lc (own := [(".0", 2), ("thing", 3)]) (g := (gName 3)) (tt := tYes) rfl sc_are_wholes.nd (pi_un (pv 0)) (blkOk_by (own := [(".0", 2), ("thing", 3)]) (N := nm_are_wholes) (sc := defScope st_are_wholes) (by decide +kernel)) (fun _ _ _ _ _ => (pg_name (i := 3) sc_are_wholes.nd rfl (Or.inl rfl))) (fun _ _ _ _ _ => pts_nil) (fun _ _ _ _ _ => (pe_callS G_is_whole (hr.mono (by decide)) rfl T.m_is_whole T.k_is_whole T.b_is_whole passC (pa_cons (pv 3) pa_nil)))) pa_nil)))))

theorem sc_fits_op : FnScope nm_fits_op ["op", "number", "functions", "rows"] (defScope st_fits_op) := ⟨rfl, rfl, rfl, by decide +kernel, rfl, by decide +kernel, by decide +kernel⟩
theorem ok_fits_op {P : Program} {base : Heap} {Z : Adr} (T : Top Z)  : FnOk P Z.w Z.K Z.mg base (L2.CX P Z.w) 1 Z.f_fits_op Z.d_fits_op ["op", "number", "functions", "rows"] (sp_fits_op Z) := by
  refine FnOk.mono (T.F_fits_op.okX (k := 0) sc_fits_op (fun vs H Q E h => ?_) (fun cdv A outer s H vs Q E hr h => ?_)) (by decide)
  · obtain ⟨a0, a1, a2, a3, rfl, _⟩ := h; rfl
  · obtain ⟨a0, a1, a2, a3, rfl, h⟩ := h
    have tk : Takes (cxOf (L2.CX P Z.w) P Z.w Z.K Z.mg base nm_fits_op "fits_op" (defScope st_fits_op) Z.f_fits_op cdv A outer s H E) (fun cls d _ H => E cls d H) := takes_of rfl rfl rfl rfl
    have po : PassesOwn (model P Z.w) (cxOf (L2.CX P Z.w) P Z.w Z.K Z.mg base nm_fits_op "fits_op" (defScope st_fits_op) Z.f_fits_op cdv A outer s H E).A (cxOf (L2.CX P Z.w) P Z.w Z.K Z.mg base nm_fits_op "fits_op" (defScope st_fits_op) Z.f_fits_op cdv A outer s H E).env (cxOf (L2.CX P Z.w) P Z.w Z.K Z.mg base nm_fits_op "fits_op" (defScope st_fits_op) Z.f_fits_op cdv A outer s H E).xe := passes_of rfl
    refine ⟨t_fits_op Z (fun cls d _ H => E cls d H), ?_, rd_fits_op T h⟩
    exact (pss_cons (ps_if (pt_cmpR (op_eqU (hr.units)) (pv 0) (pe_glob rfl T.g_PUSH ⟨_, rfl⟩) (nomark _)) (pss_one (ps_ret pe_bl)) pss_nil)
      (pss_cons (ps_if (pt_cmpR op_in_seq (pv 0) (pe_tup (pa_cons (pe_glob rfl T.g_GET ⟨_, rfl⟩) (pa_cons (pe_glob rfl T.g_SET_codes ⟨_, rfl⟩) pa_nil))) (by rfl)) (pss_one (ps_ret (pe_chain op_le op_lt pe_int (pv 1) (pe_glob rfl T.g_MOST_BOXES ⟨_, rfl⟩)))) pss_nil)
      (pss_cons (ps_if (pt_cmpR op_in_seq (pv 0) (pe_tup (pa_cons (pe_glob rfl T.g_JUMP ⟨_, rfl⟩) (pa_cons (pe_glob rfl T.g_UNLESS ⟨_, rfl⟩) pa_nil))) (by rfl)) (pss_one (ps_ret (pe_chain op_le op_lt pe_int (pv 1) (pv 3)))) pss_nil)
      (pss_cons (ps_if (pt_cmpR (op_eqU (hr.units)) (pv 0) (pe_glob rfl T.g_CALL ⟨_, rfl⟩) (nomark _)) (pss_one (ps_ret (pe_chain op_le op_lt pe_int (pv 1) (pv 2)))) pss_nil)
      (pss_cons (ps_if (pt_cmpR op_in_seq (pv 0) (pe_tup (pa_cons (pe_glob rfl T.g_DROP ⟨_, rfl⟩) (pa_cons (pe_glob rfl T.g_BACK ⟨_, rfl⟩) (pa_cons (pe_glob rfl T.g_FAIL ⟨_, rfl⟩) (pa_cons (pe_glob rfl T.g_BREATH ⟨_, rfl⟩) pa_nil))))) (by rfl)) (pss_one (ps_ret (pe_cmpR (op_eqU (hr.units)) (pv 1) pe_int (nomark _)))) pss_nil)
      (pss_cons (ps_if (pt_cmpR (op_eqU (hr.units)) (pv 0) (pe_glob rfl T.g_DO_codes ⟨_, rfl⟩) (nomark _)) (pss_one (ps_ret (pe_chain op_le op_le (pe_glob rfl T.g_FIRST_DONE_codes ⟨_, rfl⟩) (pv 1) (pe_glob rfl T.g_LAST_DONE ⟨_, rfl⟩)))) pss_nil)
      (pss_one (ps_ret (pe_and (pe_cmpR (op_eqU (hr.units)) (pv 0) (pe_glob rfl T.g_PICK ⟨_, rfl⟩) (nomark _)) (pe_one (pe_chain op_le op_le pe_int (pv 1) (pe_glob rfl T.g_MOST_PICKED ⟨_, rfl⟩))))))))))))

theorem sc_fits_head : FnScope nm_fits_head ["head", "at", "rows"] (defScope st_fits_head) := ⟨rfl, rfl, rfl, by decide +kernel, rfl, by decide +kernel, by decide +kernel⟩
theorem ok_fits_head {P : Program} {base : Heap} {Z : Adr} (T : Top Z)  : FnOk P Z.w Z.K Z.mg base (L2.CX P Z.w) 1 Z.f_fits_head Z.d_fits_head ["head", "at", "rows"] (sp_fits_head Z) := by
  refine FnOk.mono (T.F_fits_head.okX (k := 0) sc_fits_head (fun vs H Q E h => ?_) (fun cdv A outer s H vs Q E hr h => ?_)) (by decide)
  · obtain ⟨a0, a1, a2, rfl, _⟩ := h; rfl
  · obtain ⟨a0, a1, a2, rfl, h⟩ := h
    have tk : Takes (cxOf (L2.CX P Z.w) P Z.w Z.K Z.mg base nm_fits_head "fits_head" (defScope st_fits_head) Z.f_fits_head cdv A outer s H E) (fun cls d _ H => E cls d H) := takes_of rfl rfl rfl rfl
    have po : PassesOwn (model P Z.w) (cxOf (L2.CX P Z.w) P Z.w Z.K Z.mg base nm_fits_head "fits_head" (defScope st_fits_head) Z.f_fits_head cdv A outer s H E).A (cxOf (L2.CX P Z.w) P Z.w Z.K Z.mg base nm_fits_head "fits_head" (defScope st_fits_head) Z.f_fits_head cdv A outer s H E).env (cxOf (L2.CX P Z.w) P Z.w Z.K Z.mg base nm_fits_head "fits_head" (defScope st_fits_head) Z.f_fits_head cdv A outer s H E).xe := passes_of rfl
    refine ⟨t_fits_head Z (fun cls d _ H => E cls d H), ?_, rd_fits_head T h⟩
    exact (pss_cons (ps_asg (pv 0) (pg_un rfl (pgs_cons (pg_name (i := 3) sc_fits_head.nd rfl (Or.inl rfl)) (pgs_cons (pg_name (i := 4) sc_fits_head.nd rfl (Or.inl rfl)) (pgs_cons (pg_name (i := 5) sc_fits_head.nd rfl (Or.inl rfl)) pgs_nil)))))
      (pss_cons (ps_if (PW.pt (pw_or (pt_not (pt_chain op_le op_lt pe_int (pv 3) (pv 2))) (pw_or1 (pt_not (pt_chain op_le op_le pe_int (pv 4) (pe_op op_ml (pe_glob rfl T.g_MOST_PARAMS ⟨_, rfl⟩) (pe_callTy call_int' (by rfl) T.n_int (by decide +kernel) (pa_cons (pe_cmpR op_gt (pv 1) pe_int (nomark _)) pa_nil)))))))) (pss_one (ps_ret pe_bl)) pss_nil)
      (pss_one (ps_ret (pe_chain op_le op_le (pv 4) (pv 5) (pe_glob rfl T.g_MOST_BOXES ⟨_, rfl⟩))))))

theorem sc_make_code : FnScope nm_make_code ["heads", "rows"] (defScope st_make_code) := ⟨rfl, rfl, rfl, by decide +kernel, rfl, by decide +kernel, by decide +kernel⟩
theorem ok_make_code {P : Program} {base : Heap} {Z : Adr} (T : Top Z) (G_fits_head : FnOk P Z.w Z.K Z.mg base (L2.CX P Z.w) 1 Z.f_fits_head Z.d_fits_head ["head", "at", "rows"] (sp_fits_head Z)) (G_fits_op : FnOk P Z.w Z.K Z.mg base (L2.CX P Z.w) 1 Z.f_fits_op Z.d_fits_op ["op", "number", "functions", "rows"] (sp_fits_op Z)) : FnOk P Z.w Z.K Z.mg base (L2.CX P Z.w) 2 Z.f_make_code Z.d_make_code ["heads", "rows"] (sp_make_code Z) := by
  refine FnOk.mono (T.F_make_code.okX (k := 1) sc_make_code (fun vs H Q E h => ?_) (fun cdv A outer s H vs Q E hr h => ?_)) (by decide)
  · obtain ⟨a0, a1, rfl, _⟩ := h; rfl
  · obtain ⟨a0, a1, rfl, h⟩ := h
    have tk : Takes (cxOf (L2.CX P Z.w) P Z.w Z.K Z.mg base nm_make_code "make_code" (defScope st_make_code) Z.f_make_code cdv A outer s H E) (fun cls d _ H => E cls d H) := takes_of rfl rfl rfl rfl
    have po : PassesOwn (model P Z.w) (cxOf (L2.CX P Z.w) P Z.w Z.K Z.mg base nm_make_code "make_code" (defScope st_make_code) Z.f_make_code cdv A outer s H E).A (cxOf (L2.CX P Z.w) P Z.w Z.K Z.mg base nm_make_code "make_code" (defScope st_make_code) Z.f_make_code cdv A outer s H E).env (cxOf (L2.CX P Z.w) P Z.w Z.K Z.mg base nm_make_code "make_code" (defScope st_make_code) Z.f_make_code cdv A outer s H E).xe := passes_of rfl
    refine ⟨t_make_code Z (fun cls d _ H => E cls d H), ?_, rd_make_code T h⟩
    exact (pss_cons (ps_if (PW.pt (pw_or (pt_not (pt_chain op_le op_le pe_int (pe_callB call_len' (by rfl) T.n_len (by decide +kernel) (pa_cons (pv 0) pa_nil)) (pe_glob rfl T.g_MOST_FUNCTIONS ⟨_, rfl⟩))) (pw_or1 (pt_cmpR op_lt (pe_callB call_len' (by rfl) T.n_len (by decide +kernel) (pa_cons (pv 1) pa_nil)) pe_int (nomark _))))) (pss_one (ps_ret pe_bl)) pss_nil)
      (pss_cons (ps_for po rfl (pi_range1 rfl T.n_range (pa_cons (pe_callB call_len' (by rfl) T.n_len (by decide +kernel) (pa_cons (pv 0) pa_nil)) pa_nil)) (pg_name (i := 2) sc_make_code.nd rfl (Or.inl rfl)) (pss_one (ps_if (pt_not (pt_val (pe_callS G_fits_head (hr.mono (by decide)) rfl T.m_fits_head T.k_fits_head T.b_fits_head (fun σ => passAt tk σ) (pa_cons (pe_ix ix_seq (pv 0) (pv 2) (fun _ _ => rfl)) (pa_cons (pv 2) (pa_cons (pe_callB call_len' (by rfl) T.n_len (by decide +kernel) (pa_cons (pv 1) pa_nil)) pa_nil)))))) (pss_one (ps_ret pe_bl)) pss_nil)))
      (pss_cons (ps_for po rfl (pi_un (pv 1)) (pg_un rfl (pgs_cons (pg_name (i := 3) sc_make_code.nd rfl (Or.inl rfl)) (pgs_cons (pg_name (i := 4) sc_make_code.nd rfl (Or.inl rfl)) pgs_nil))) (pss_one (ps_if (pt_not (pt_val (pe_callS G_fits_op (hr.mono (by decide)) rfl T.m_fits_op T.k_fits_op T.b_fits_op (fun σ => passAt tk σ) (pa_cons (pv 3) (pa_cons (pv 4) (pa_cons (pe_callB call_len' (by rfl) T.n_len (by decide +kernel) (pa_cons (pv 0) pa_nil)) (pa_cons (pe_callB call_len' (by rfl) T.n_len (by decide +kernel) (pa_cons (pv 1) pa_nil)) pa_nil))))))) (pss_one (ps_ret pe_bl)) pss_nil)))
      (pss_one (ps_ret pe_bl)))))

theorem sc_code_of : FnScope nm_code_of ["heads", "rows"] (defScope st_code_of) := ⟨rfl, rfl, rfl, by decide +kernel, rfl, by decide +kernel, by decide +kernel⟩
theorem ok_code_of {P : Program} {base : Heap} {Z : Adr} (T : Top Z) (G_are_wholes : FnOk P Z.w Z.K Z.mg base (L2.CX P Z.w) 2 Z.f_are_wholes Z.d_are_wholes ["things", "many"] (sp_are_wholes Z)) (G_make_code : FnOk P Z.w Z.K Z.mg base (L2.CX P Z.w) 2 Z.f_make_code Z.d_make_code ["heads", "rows"] (sp_make_code Z)) : FnOk P Z.w Z.K Z.mg base (L2.CX P Z.w) 3 Z.f_code_of Z.d_code_of ["heads", "rows"] (sp_code_of Z) := by
  refine FnOk.mono (T.F_code_of.okX (k := 2) sc_code_of (fun vs H Q E h => ?_) (fun cdv A outer s H vs Q E hr h => ?_)) (by decide)
  · obtain ⟨a0, a1, rfl, _⟩ := h; rfl
  · obtain ⟨a0, a1, rfl, h⟩ := h
    have tk : Takes (cxOf (L2.CX P Z.w) P Z.w Z.K Z.mg base nm_code_of "code_of" (defScope st_code_of) Z.f_code_of cdv A outer s H E) (fun cls d _ H => E cls d H) := takes_of rfl rfl rfl rfl
    have po : PassesOwn (model P Z.w) (cxOf (L2.CX P Z.w) P Z.w Z.K Z.mg base nm_code_of "code_of" (defScope st_code_of) Z.f_code_of cdv A outer s H E).A (cxOf (L2.CX P Z.w) P Z.w Z.K Z.mg base nm_code_of "code_of" (defScope st_code_of) Z.f_code_of cdv A outer s H E).env (cxOf (L2.CX P Z.w) P Z.w Z.K Z.mg base nm_code_of "code_of" (defScope st_code_of) Z.f_code_of cdv A outer s H E).xe := passes_of rfl
    refine ⟨t_code_of Z (fun cls d _ H => E cls d H), ?_, rd_code_of T h⟩
    exact (pss_cons (ps_if (PW.pt (pw_or (pt_not (pt_val (pe_callB call_isi' (by rfl) T.n_isinstance (by decide +kernel) (pa_cons (pv 0) (pa_cons (pe_tup (pa_cons (pe_bltn (by rfl) T.n_list (by decide +kernel) rfl) (pa_cons (pe_bltn (by rfl) T.n_tuple (by decide +kernel) rfl) pa_nil))) pa_nil))))) (pw_or1 (pt_not (pt_val (pe_callB call_isi' (by rfl) T.n_isinstance (by decide +kernel) (pa_cons (pv 1) (pa_cons (pe_tup (pa_cons (pe_bltn (by rfl) T.n_list (by decide +kernel) rfl) (pa_cons (pe_bltn (by rfl) T.n_tuple (by decide +kernel) rfl) pa_nil))) pa_nil)))))))) (pss_one (ps_raise rfl tk (pmk_own PySem.F.excBase_ValueError T.oq_NoCode T.g_NoCode T.ok_NoCode (raises_own T.ob_NoCode T.oy_NoCode) rfl))) pss_nil)
      (pss_cons (ps_if (PW.pt (pw_or (pt_not (pt_val (pe_callB (cr_all rfl) (by rfl) T.n_all (by decide +kernel) (pa_cons (pe_lc (own := [(".0", 5), ("head", 2)]) (g := (gName 2)) (tt := tYes) rfl sc_code_of.nd (pi_un (pv 0)) (blkOk_by (own := [(".0", 5), ("head", 2)]) (N := nm_code_of) (sc := defScope st_code_of) (by decide +kernel)) (fun _ _ _ _ _ => (pg_name (i := 2) sc_code_of.nd rfl (Or.inl rfl))) (fun _ _ _ _ _ => pts_nil) (fun _ _ _ _ _ => (pe_callS G_are_wholes (hr.mono (by decide)) rfl T.m_are_wholes T.k_are_wholes T.b_are_wholes passC (pa_cons (pv 2) (pa_cons pe_int pa_nil))))) pa_nil)))) (pw_or1 (pt_not (pt_val (pe_callB (cr_all rfl) (by rfl) T.n_all (by decide +kernel) (pa_cons (pe_lc (own := [(".0", 5), ("row", 3)]) (g := (gName 3)) (tt := tYes) rfl sc_code_of.nd (pi_un (pv 1)) (blkOk_by (own := [(".0", 5), ("row", 3)]) (N := nm_code_of) (sc := defScope st_code_of) (by decide +kernel)) (fun _ _ _ _ _ => (pg_name (i := 3) sc_code_of.nd rfl (Or.inl rfl))) (fun _ _ _ _ _ => pts_nil) (fun _ _ _ _ _ => (pe_callS G_are_wholes (hr.mono (by decide)) rfl T.m_are_wholes T.k_are_wholes T.b_are_wholes passC (pa_cons (pv 3) (pa_cons pe_int pa_nil))))) pa_nil))))))) (pss_one (ps_raise rfl tk (pmk_own PySem.F.excBase_ValueError T.oq_NoCode T.g_NoCode T.ok_NoCode (raises_own T.ob_NoCode T.oy_NoCode) rfl))) pss_nil)
      (pss_cons (ps_if (pt_not (pt_val (pe_callS G_make_code (hr.mono (by decide)) rfl T.m_make_code T.k_make_code T.b_make_code (fun σ => passAt tk σ) (pa_cons (pv 0) (pa_cons (pv 1) pa_nil))))) (pss_one (ps_raise rfl tk (pmk_own PySem.F.excBase_ValueError T.oq_NoCode T.g_NoCode T.ok_NoCode (raises_own T.ob_NoCode T.oy_NoCode) rfl))) pss_nil)
      (pss_cons (ps_set (i := 4) sc_code_of.nd rfl (Or.inl rfl) (pe_lst (pa_cons (pe_callB call_len' (by rfl) T.n_len (by decide +kernel) (pa_cons (pv 0) pa_nil)) pa_nil)))
      (pss_cons (ps_for po rfl (pi_un (pv 0)) (pg_name (i := 2) sc_code_of.nd rfl (Or.inl rfl)) (pss_one (ps_expr (pe_bm PySem.F.plainAttrs_list PySem.F.slot_list_extend PySem.F.type_list_extend mt_extend (pv 4) (pa_cons (pe_callTy call_list' (by rfl) T.n_list (by decide +kernel) (pa_cons (pv 2) pa_nil)) pa_nil)))))
      (pss_cons (ps_for po rfl (pi_un (pv 1)) (pg_name (i := 3) sc_code_of.nd rfl (Or.inl rfl)) (pss_one (ps_expr (pe_bm PySem.F.plainAttrs_list PySem.F.slot_list_extend PySem.F.type_list_extend mt_extend (pv 4) (pa_cons (pe_callTy call_list' (by rfl) T.n_list (by decide +kernel) (pa_cons (pv 3) pa_nil)) pa_nil)))))
      (pss_one (ps_ret (pv 4)))))))))

theorem sc_word_of : FnScope nm_word_of ["kind"] (defScope st_word_of) := ⟨rfl, rfl, rfl, by decide +kernel, rfl, by decide +kernel, by decide +kernel⟩
theorem ok_word_of {P : Program} {base : Heap} {Z : Adr} (T : Top Z)  : FnOk P Z.w Z.K Z.mg base (L2.CX P Z.w) 1 Z.f_word_of Z.d_word_of ["kind"] (sp_word_of Z) := by
  refine FnOk.mono (T.F_word_of.okX (k := 0) sc_word_of (fun vs H Q E h => ?_) (fun cdv A outer s H vs Q E hr h => ?_)) (by decide)
  · obtain ⟨a0, rfl, _⟩ := h; rfl
  · obtain ⟨a0, rfl, h⟩ := h
    have tk : Takes (cxOf (L2.CX P Z.w) P Z.w Z.K Z.mg base nm_word_of "word_of" (defScope st_word_of) Z.f_word_of cdv A outer s H E) (fun cls d _ H => E cls d H) := takes_of rfl rfl rfl rfl
    have po : PassesOwn (model P Z.w) (cxOf (L2.CX P Z.w) P Z.w Z.K Z.mg base nm_word_of "word_of" (defScope st_word_of) Z.f_word_of cdv A outer s H E).A (cxOf (L2.CX P Z.w) P Z.w Z.K Z.mg base nm_word_of "word_of" (defScope st_word_of) Z.f_word_of cdv A outer s H E).env (cxOf (L2.CX P Z.w) P Z.w Z.K Z.mg base nm_word_of "word_of" (defScope st_word_of) Z.f_word_of cdv A outer s H E).xe := passes_of rfl
    refine ⟨t_word_of Z (fun cls d _ H => E cls d H), ?_, rd_word_of T h⟩
    exact (pss_one (ps_ret (pe_ix ix_seq (pe_op op_addU (pe_glob rfl T.g_EARLY rfl) (pe_glob rfl T.g_LATE rfl)) (pe_op op_sub (pv 0) (pe_glob rfl T.g_SET_kinds ⟨_, rfl⟩)) (fun _ _ => rfl))))

theorem sc_kind_of : FnScope nm_kind_of ["word"] (defScope st_kind_of) := ⟨rfl, rfl, rfl, by decide +kernel, rfl, by decide +kernel, by decide +kernel⟩
theorem ok_kind_of {P : Program} {base : Heap} {Z : Adr} (T : Top Z) (G_word_of : FnOk P Z.w Z.K Z.mg base (L2.CX P Z.w) 1 Z.f_word_of Z.d_word_of ["kind"] (sp_word_of Z)) : FnOk P Z.w Z.K Z.mg base (L2.CX P Z.w) 2 Z.f_kind_of Z.d_kind_of ["word"] (sp_kind_of Z) := by
  refine FnOk.mono (T.F_kind_of.okX (k := 1) sc_kind_of (fun vs H Q E h => ?_) (fun cdv A outer s H vs Q E hr h => ?_)) (by decide)
  · obtain ⟨a0, rfl, _⟩ := h; rfl
  · obtain ⟨a0, rfl, h⟩ := h
    have tk : Takes (cxOf (L2.CX P Z.w) P Z.w Z.K Z.mg base nm_kind_of "kind_of" (defScope st_kind_of) Z.f_kind_of cdv A outer s H E) (fun cls d _ H => E cls d H) := takes_of rfl rfl rfl rfl
    have po : PassesOwn (model P Z.w) (cxOf (L2.CX P Z.w) P Z.w Z.K Z.mg base nm_kind_of "kind_of" (defScope st_kind_of) Z.f_kind_of cdv A outer s H E).A (cxOf (L2.CX P Z.w) P Z.w Z.K Z.mg base nm_kind_of "kind_of" (defScope st_kind_of) Z.f_kind_of cdv A outer s H E).env (cxOf (L2.CX P Z.w) P Z.w Z.K Z.mg base nm_kind_of "kind_of" (defScope st_kind_of) Z.f_kind_of cdv A outer s H E).xe := passes_of rfl
    refine ⟨t_kind_of Z (fun cls d _ H => E cls d H), ?_, rd_kind_of T h⟩
    exact (pss_cons (ps_for po rfl (pi_range2 rfl T.n_range (pa_cons (pe_glob rfl T.g_SET_kinds ⟨_, rfl⟩) (pa_cons (pe_op op_addU (pe_glob rfl T.g_NEW ⟨_, rfl⟩) pe_int) pa_nil))) (pg_name (i := 1) sc_kind_of.nd rfl (Or.inl rfl)) (pss_one (ps_if (pt_cmpR (op_eqU (hr.units)) (pe_callS G_word_of (hr.mono (by decide)) rfl T.m_word_of T.k_word_of T.b_word_of (fun σ => passAt tk σ) (pa_cons (pv 1) pa_nil)) (pv 0) (nomark _)) (pss_one (ps_ret (pv 1))) pss_nil)))
      (pss_one (ps_ret pe_non)))

theorem sc_is_of : FnScope nm_is_of ["word", "signs", "most"] (defScope st_is_of) := ⟨rfl, rfl, rfl, by decide +kernel, rfl, by decide +kernel, by decide +kernel⟩
theorem ok_is_of {P : Program} {base : Heap} {Z : Adr} (T : Top Z)  : FnOk P Z.w Z.K Z.mg base (L2.CX P Z.w) 1 Z.f_is_of Z.d_is_of ["word", "signs", "most"] (sp_is_of Z) := by
  refine FnOk.mono (T.F_is_of.okX (k := 0) sc_is_of (fun vs H Q E h => ?_) (fun cdv A outer s H vs Q E hr h => ?_)) (by decide)
  · obtain ⟨a0, a1, a2, rfl, _⟩ := h; rfl
  · obtain ⟨a0, a1, a2, rfl, h⟩ := h
    have tk : Takes (cxOf (L2.CX P Z.w) P Z.w Z.K Z.mg base nm_is_of "is_of" (defScope st_is_of) Z.f_is_of cdv A outer s H E) (fun cls d _ H => E cls d H) := takes_of rfl rfl rfl rfl
    have po : PassesOwn (model P Z.w) (cxOf (L2.CX P Z.w) P Z.w Z.K Z.mg base nm_is_of "is_of" (defScope st_is_of) Z.f_is_of cdv A outer s H E).A (cxOf (L2.CX P Z.w) P Z.w Z.K Z.mg base nm_is_of "is_of" (defScope st_is_of) Z.f_is_of cdv A outer s H E).env (cxOf (L2.CX P Z.w) P Z.w Z.K Z.mg base nm_is_of "is_of" (defScope st_is_of) Z.f_is_of cdv A outer s H E).xe := passes_of rfl
    refine ⟨t_is_of Z (fun cls d _ H => E cls d H), ?_, rd_is_of T h⟩
    exact (pss_cons (ps_if (pt_not (pt_chain op_le op_le pe_int (pe_callB call_len' (by rfl) T.n_len (by decide +kernel) (pa_cons (pv 0) pa_nil)) (pv 2))) (pss_one (ps_ret pe_bl)) pss_nil)
      (pss_cons (ps_for po rfl (pi_str (pv 0)) (pg_name (i := 3) sc_is_of.nd rfl (Or.inl rfl)) (pss_one (ps_if (pt_cmpR op_notIn_sign' (pv 3) (pv 1) (by rfl)) (pss_one (ps_ret pe_bl)) pss_nil)))
      (pss_one (ps_ret pe_bl))))

theorem sc_is_number_of : FnScope nm_is_number_of ["word", "most"] (defScope st_is_number_of) := ⟨rfl, rfl, rfl, by decide +kernel, rfl, by decide +kernel, by decide +kernel⟩
theorem ok_is_number_of {P : Program} {base : Heap} {Z : Adr} (T : Top Z) (G_is_of : FnOk P Z.w Z.K Z.mg base (L2.CX P Z.w) 1 Z.f_is_of Z.d_is_of ["word", "signs", "most"] (sp_is_of Z)) : FnOk P Z.w Z.K Z.mg base (L2.CX P Z.w) 2 Z.f_is_number_of Z.d_is_number_of ["word", "most"] (sp_is_number_of Z) := by
  refine FnOk.mono (T.F_is_number_of.okX (k := 1) sc_is_number_of (fun vs H Q E h => ?_) (fun cdv A outer s H vs Q E hr h => ?_)) (by decide)
  · obtain ⟨a0, a1, rfl, _⟩ := h; rfl
  · obtain ⟨a0, a1, rfl, h⟩ := h
    have tk : Takes (cxOf (L2.CX P Z.w) P Z.w Z.K Z.mg base nm_is_number_of "is_number_of" (defScope st_is_number_of) Z.f_is_number_of cdv A outer s H E) (fun cls d _ H => E cls d H) := takes_of rfl rfl rfl rfl
    have po : PassesOwn (model P Z.w) (cxOf (L2.CX P Z.w) P Z.w Z.K Z.mg base nm_is_number_of "is_number_of" (defScope st_is_number_of) Z.f_is_number_of cdv A outer s H E).A (cxOf (L2.CX P Z.w) P Z.w Z.K Z.mg base nm_is_number_of "is_number_of" (defScope st_is_number_of) Z.f_is_number_of cdv A outer s H E).env (cxOf (L2.CX P Z.w) P Z.w Z.K Z.mg base nm_is_number_of "is_number_of" (defScope st_is_number_of) Z.f_is_number_of cdv A outer s H E).xe := passes_of rfl
    refine ⟨t_is_number_of Z (fun cls d _ H => E cls d H), ?_, rd_is_number_of T h⟩
    exact (pss_cons (ps_set (i := 2) sc_is_number_of.nd rfl (Or.inl rfl) (pv 0))
      (C8.pss_cut (ps_if (pt_cmpR (op_eqU (hr.units)) (pe_slice sl_str (pv 0) po_none (po_some pe_int)) pe_str (nomark _)) (pss_one (ps_set (i := 2) sc_is_number_of.nd rfl (Or.inl rfl) (pe_slice sl_str (pv 0) (po_some pe_int) po_none))) pss_nil)
      (pss_cons (ps_if (pt_not (pt_val (pe_callS G_is_of (hr.mono (by decide)) rfl T.m_is_of T.k_is_of T.b_is_of (fun σ => passAt tk σ) (pa_cons (pv 2) (pa_cons (pe_glob rfl T.g_FIGURES ⟨_, rfl⟩) (pa_cons (pv 1) pa_nil)))))) (pss_one (ps_ret pe_bl)) pss_nil)
      (pss_one (ps_ret (pe_or (pe_cmpR (op_neU (hr.units)) (pe_ix ix_seq (pv 2) pe_int (fun _ _ => rfl)) pe_str (nomark _)) (pe_one (pe_cmpR (op_eqU (hr.units)) (pv 0) pe_str (nomark _)))))))))

theorem sc_is_number_word : FnScope nm_is_number_word ["word"] (defScope st_is_number_word) := ⟨rfl, rfl, rfl, by decide +kernel, rfl, by decide +kernel, by decide +kernel⟩
theorem ok_is_number_word {P : Program} {base : Heap} {Z : Adr} (T : Top Z) (G_is_number_of : FnOk P Z.w Z.K Z.mg base (L2.CX P Z.w) 2 Z.f_is_number_of Z.d_is_number_of ["word", "most"] (sp_is_number_of Z)) : FnOk P Z.w Z.K Z.mg base (L2.CX P Z.w) 3 Z.f_is_number_word Z.d_is_number_word ["word"] (sp_is_number_word Z) := by
  refine FnOk.mono (T.F_is_number_word.okX (k := 2) sc_is_number_word (fun vs H Q E h => ?_) (fun cdv A outer s H vs Q E hr h => ?_)) (by decide)
  · obtain ⟨a0, rfl, _⟩ := h; rfl
  · obtain ⟨a0, rfl, h⟩ := h
    have tk : Takes (cxOf (L2.CX P Z.w) P Z.w Z.K Z.mg base nm_is_number_word "is_number_word" (defScope st_is_number_word) Z.f_is_number_word cdv A outer s H E) (fun cls d _ H => E cls d H) := takes_of rfl rfl rfl rfl
    have po : PassesOwn (model P Z.w) (cxOf (L2.CX P Z.w) P Z.w Z.K Z.mg base nm_is_number_word "is_number_word" (defScope st_is_number_word) Z.f_is_number_word cdv A outer s H E).A (cxOf (L2.CX P Z.w) P Z.w Z.K Z.mg base nm_is_number_word "is_number_word" (defScope st_is_number_word) Z.f_is_number_word cdv A outer s H E).env (cxOf (L2.CX P Z.w) P Z.w Z.K Z.mg base nm_is_number_word "is_number_word" (defScope st_is_number_word) Z.f_is_number_word cdv A outer s H E).xe := passes_of rfl
    refine ⟨t_is_number_word Z (fun cls d _ H => E cls d H), ?_, rd_is_number_word T h⟩
    exact (pss_one (ps_ret (pe_callS G_is_number_of (hr.mono (by decide)) rfl T.m_is_number_of T.k_is_number_of T.b_is_number_of (fun σ => passAt tk σ) (pa_cons (pv 0) (pa_cons (pe_glob rfl T.g_MOST_FIGURES ⟨_, rfl⟩) pa_nil)))))

theorem sc_row_in : FnScope nm_row_in ["words"] (defScope st_row_in) := ⟨rfl, rfl, rfl, by decide +kernel, rfl, by decide +kernel, by decide +kernel⟩
theorem ok_row_in {P : Program} {base : Heap} {Z : Adr} (T : Top Z) (G_is_number_of : FnOk P Z.w Z.K Z.mg base (L2.CX P Z.w) 2 Z.f_is_number_of Z.d_is_number_of ["word", "most"] (sp_is_number_of Z)) (G_kind_of : FnOk P Z.w Z.K Z.mg base (L2.CX P Z.w) 2 Z.f_kind_of Z.d_kind_of ["word"] (sp_kind_of Z)) : FnOk P Z.w Z.K Z.mg base (L2.CX P Z.w) 3 Z.f_row_in Z.d_row_in ["words"] (sp_row_in Z) := by
  refine FnOk.mono (T.F_row_in.okX (k := 2) sc_row_in (fun vs H Q E h => ?_) (fun cdv A outer s H vs Q E hr h => ?_)) (by decide)
  · obtain ⟨a0, rfl, _⟩ := h; rfl
  · obtain ⟨a0, rfl, h⟩ := h
    have tk : Takes (cxOf (L2.CX P Z.w) P Z.w Z.K Z.mg base nm_row_in "row_in" (defScope st_row_in) Z.f_row_in cdv A outer s H E) (fun cls d _ H => E cls d H) := takes_of rfl rfl rfl rfl
    have po : PassesOwn (model P Z.w) (cxOf (L2.CX P Z.w) P Z.w Z.K Z.mg base nm_row_in "row_in" (defScope st_row_in) Z.f_row_in cdv A outer s H E).A (cxOf (L2.CX P Z.w) P Z.w Z.K Z.mg base nm_row_in "row_in" (defScope st_row_in) Z.f_row_in cdv A outer s H E).env (cxOf (L2.CX P Z.w) P Z.w Z.K Z.mg base nm_row_in "row_in" (defScope st_row_in) Z.f_row_in cdv A outer s H E).xe := passes_of rfl
    refine ⟨t_row_in Z (fun cls d _ H => E cls d H), ?_, rd_row_in T h⟩
    exact (pss_cons (ps_set (i := 1) sc_row_in.nd rfl (Or.inl rfl) (pe_ix ix_seq (pv 0) pe_int (fun _ _ => rfl)))
      (pss_cons (ps_set (i := 2) sc_row_in.nd rfl (Or.inl rfl) (pe_glob rfl T.g_MOST_FIGURES ⟨_, rfl⟩))
      (C8.pss_cut (ps_if (pt_cmpR (op_eqU (hr.units)) (pv 1) pe_str (nomark _)) (pss_one (ps_set (i := 2) sc_row_in.nd rfl (Or.inl rfl) (pe_glob rfl T.g_MOST_PUSHED ⟨_, rfl⟩))) pss_nil)
      (pss_cons (ps_if (PW.pt (pw_and (pt_cmpR (op_eqU (hr.units)) (pe_callB call_len' (by rfl) T.n_len (by decide +kernel) (pa_cons (pv 0) pa_nil)) pe_int (nomark _)) (pw_and (pt_cmpR op_inK (pv 1) (pe_glob rfl T.g_NUMBERED rfl) (by rfl)) (pw_and1 (pt_val (pe_callS G_is_number_of (hr.mono (by decide)) rfl T.m_is_number_of T.k_is_number_of T.b_is_number_of (fun σ => passAt tk σ) (pa_cons (pe_ix ix_seq (pv 0) pe_int (fun _ _ => rfl)) (pa_cons (pv 2) pa_nil)))))))) (pss_one (ps_ret (pe_tup (pa_cons (pe_ix ix_kd (pe_glob rfl T.g_NUMBERED rfl) (pv 1) (fun _ _ => rfl)) (pa_cons (pe_callTy call_intS' (by rfl) T.n_int (by decide +kernel) (pa_cons (pe_ix ix_seq (pv 0) pe_int (fun _ _ => rfl)) pa_nil)) pa_nil))))) pss_nil)
      (pss_cons (ps_if (PW.pt (pw_and (pt_cmpR (op_eqU (hr.units)) (pe_callB call_len' (by rfl) T.n_len (by decide +kernel) (pa_cons (pv 0) pa_nil)) pe_int (nomark _)) (pw_and1 (pt_cmpR op_inK (pv 1) (pe_glob rfl T.g_ALONE rfl) (by rfl))))) (pss_one (ps_ret (pe_tup (pa_cons (pe_ix ix_kd (pe_glob rfl T.g_ALONE rfl) (pv 1) (fun _ _ => rfl)) (pa_cons pe_int pa_nil))))) pss_nil)
      (pss_cons (ps_set (i := 3) sc_row_in.nd rfl (Or.inl rfl) (pe_callS G_kind_of (hr.mono (by decide)) rfl T.m_kind_of T.k_kind_of T.b_kind_of (fun σ => passAt tk σ) (pa_cons (pv 1) pa_nil)))
      (pss_cons (ps_if (PW.pt (pw_and (pt_cmpR (op_eqU (hr.units)) (pe_callB call_len' (by rfl) T.n_len (by decide +kernel) (pa_cons (pv 0) pa_nil)) pe_int (nomark _)) (pw_and (pt_cmpR op_notU (pv 3) pe_non (nomark _)) (pw_and1 (pt_cmpR op_ge (pv 3) (pe_glob rfl T.g_FIRST_DONE_codetexts ⟨_, rfl⟩) (nomark _)))))) (pss_one (ps_ret (pe_tup (pa_cons (pe_glob rfl T.g_DO_codetexts ⟨_, rfl⟩) (pa_cons (pv 3) pa_nil))))) pss_nil)
      (pss_one (ps_ret pe_non)))))))))

theorem sc_head_in : FnScope nm_head_in ["words"] (defScope st_head_in) := ⟨rfl, rfl, rfl, by decide +kernel, rfl, by decide +kernel, by decide +kernel⟩
theorem ok_head_in {P : Program} {base : Heap} {Z : Adr} (T : Top Z) (G_is_number_word : FnOk P Z.w Z.K Z.mg base (L2.CX P Z.w) 3 Z.f_is_number_word Z.d_is_number_word ["word"] (sp_is_number_word Z)) : FnOk P Z.w Z.K Z.mg base (L2.CX P Z.w) 4 Z.f_head_in Z.d_head_in ["words"] (sp_head_in Z) := by
  refine FnOk.mono (T.F_head_in.okX (k := 3) sc_head_in (fun vs H Q E h => ?_) (fun cdv A outer s H vs Q E hr h => ?_)) (by decide)
  · obtain ⟨a0, rfl, _⟩ := h; rfl
  · obtain ⟨a0, rfl, h⟩ := h
    have tk : Takes (cxOf (L2.CX P Z.w) P Z.w Z.K Z.mg base nm_head_in "head_in" (defScope st_head_in) Z.f_head_in cdv A outer s H E) (fun cls d _ H => E cls d H) := takes_of rfl rfl rfl rfl
    have po : PassesOwn (model P Z.w) (cxOf (L2.CX P Z.w) P Z.w Z.K Z.mg base nm_head_in "head_in" (defScope st_head_in) Z.f_head_in cdv A outer s H E).A (cxOf (L2.CX P Z.w) P Z.w Z.K Z.mg base nm_head_in "head_in" (defScope st_head_in) Z.f_head_in cdv A outer s H E).env (cxOf (L2.CX P Z.w) P Z.w Z.K Z.mg base nm_head_in "head_in" (defScope st_head_in) Z.f_head_in cdv A outer s H E).xe := passes_of rfl
    refine ⟨t_head_in Z (fun cls d _ H => E cls d H), ?_, rd_head_in T h⟩
    exact (pss_cons (ps_if (PW.pt (pw_or (pt_cmpR (op_neU (hr.units)) (pe_ix ix_seq (pv 0) pe_int (fun _ _ => rfl)) pe_str (nomark _)) (pw_or (pt_cmpR (op_neU (hr.units)) (pe_callB call_len' (by rfl) T.n_len (by decide +kernel) (pa_cons (pv 0) pa_nil)) pe_int (nomark _)) (pw_or1 (pt_not (pt_val (pe_callB (cr_all rfl) (by rfl) T.n_all (by decide +kernel) (pa_cons (pe_lc (own := [(".0", 1), ("word", 2)]) (g := (gName 2)) (tt := tYes) rfl sc_head_in.nd (pi_list (pe_slice sl_U (pv 0) (po_some pe_int) po_none)) (blkOk_by (own := [(".0", 1), ("word", 2)]) (N := nm_head_in) (sc := defScope st_head_in) (by decide +kernel)) (fun _ _ _ _ _ => (pg_name (i := 2) sc_head_in.nd rfl (Or.inl rfl))) (fun _ _ _ _ _ => pts_nil) (fun _ _ _ _ _ => (pe_callS G_is_number_word (hr.mono (by decide)) rfl T.m_is_number_word T.k_is_number_word T.b_is_number_word passC (pa_cons (pv 2) pa_nil)))) pa_nil)))))))) (pss_one (ps_ret pe_non)) pss_nil)
      (pss_one (ps_ret (pe_callTy call_tuple' (by rfl) T.n_tuple (by decide +kernel) (pa_cons (pe_lc (own := [(".0", 1), ("word", 2)]) (g := (gName 2)) (tt := tYes) rfl sc_head_in.nd (pi_list (pe_slice sl_U (pv 0) (po_some pe_int) po_none)) (blkOk_by (own := [(".0", 1), ("word", 2)]) (N := nm_head_in) (sc := defScope st_head_in) (by decide +kernel)) (fun _ _ _ _ _ => (pg_name (i := 2) sc_head_in.nd rfl (Or.inl rfl))) (fun _ _ _ _ _ => pts_nil) (fun _ _ _ _ _ => (pe_callTy call_intS' (by rfl) T.n_int (by decide +kernel) (pa_cons (pv 2) pa_nil)))) pa_nil)))))

theorem sc_read_code : FnScope nm_read_code ["text"] (defScope st_read_code) := ⟨rfl, rfl, rfl, by decide +kernel, rfl, by decide +kernel, by decide +kernel⟩
theorem ok_read_code {P : Program} {base : Heap} {Z : Adr} (T : Top Z) (G_NoText_init : FnOk P Z.w Z.K Z.mg base (L2.CX P Z.w) 1 Z.f_NoText_init Z.d_NoText_init ["self", "at"] (sp_NoText_init Z)) (G_head_in : FnOk P Z.w Z.K Z.mg base (L2.CX P Z.w) 4 Z.f_head_in Z.d_head_in ["words"] (sp_head_in Z)) (G_row_in : FnOk P Z.w Z.K Z.mg base (L2.CX P Z.w) 3 Z.f_row_in Z.d_row_in ["words"] (sp_row_in Z)) (G_code_of : FnOk P Z.w Z.K Z.mg base (L2.CX P Z.w) 3 Z.f_code_of Z.d_code_of ["heads", "rows"] (sp_code_of Z)) : FnOk P Z.w Z.K Z.mg base (L2.CX P Z.w) 5 Z.f_read_code Z.d_read_code ["text"] (sp_read_code Z) := by
  refine FnOk.mono (T.F_read_code.okX (k := 4) sc_read_code (fun vs H Q E h => ?_) (fun cdv A outer s H vs Q E hr h => ?_)) (by decide)
  · obtain ⟨a0, rfl, _⟩ := h; rfl
  · obtain ⟨a0, rfl, h⟩ := h
    have tk : Takes (cxOf (L2.CX P Z.w) P Z.w Z.K Z.mg base nm_read_code "read_code" (defScope st_read_code) Z.f_read_code cdv A outer s H E) (fun cls d _ H => E cls d H) := takes_of rfl rfl rfl rfl
    have po : PassesOwn (model P Z.w) (cxOf (L2.CX P Z.w) P Z.w Z.K Z.mg base nm_read_code "read_code" (defScope st_read_code) Z.f_read_code cdv A outer s H E).A (cxOf (L2.CX P Z.w) P Z.w Z.K Z.mg base nm_read_code "read_code" (defScope st_read_code) Z.f_read_code cdv A outer s H E).env (cxOf (L2.CX P Z.w) P Z.w Z.K Z.mg base nm_read_code "read_code" (defScope st_read_code) Z.f_read_code cdv A outer s H E).xe := passes_of rfl
    refine ⟨t_read_code Z (fun cls d _ H => E cls d H), ?_, rd_read_code T h⟩
    exact (pss_cons (ps_if (pt_not (pt_val (pe_callB call_isi' (by rfl) T.n_isinstance (by decide +kernel) (pa_cons (pv 0) (pa_cons (pe_bltn (by rfl) T.n_str (by decide +kernel) rfl) pa_nil))))) (pss_one (ps_raiseO rfl tk T.ox_NoText T.oi_NoText T.ot_NoText G_NoText_init (hr.mono (by decide)) T.b_NoText_init passF rfl T.g_NoText (pa_cons pe_int pa_nil))) pss_nil)
      (pss_cons (ps_set (i := 1) sc_read_code.nd rfl (Or.inl rfl) (pe_lst pa_nil))
      (pss_cons (ps_set (i := 2) sc_read_code.nd rfl (Or.inl rfl) (pe_lst pa_nil))
      (pss_cons (ps_for po rfl (pi_enumU (by rfl) T.n_enumerate (pa_cons (pe_bm PySem.F.plainAttrs_str PySem.F.slot_str_split PySem.F.type_str_split mt_split (pv 0) (pa_cons pe_str pa_nil)) pa_nil)) (pg_un rfl (pgs_cons (pg_name (i := 3) sc_read_code.nd rfl (Or.inl rfl)) (pgs_cons (pg_name (i := 4) sc_read_code.nd rfl (Or.inl rfl)) pgs_nil))) (pss_cons (ps_set (i := 5) sc_read_code.nd rfl (Or.inl rfl) (pe_bm PySem.F.plainAttrs_str PySem.F.slot_str_split PySem.F.type_str_split mt_split (pv 4) (pa_cons pe_str pa_nil)))
      (pss_cons (ps_set (i := 6) sc_read_code.nd rfl (Or.inl rfl) (pe_callS G_head_in (hr.mono (by decide)) rfl T.m_head_in T.k_head_in T.b_head_in (fun σ => passAt tk σ) (pa_cons (pv 5) pa_nil)))
      (pss_cons (ps_set (i := 7) sc_read_code.nd rfl (Or.inl rfl) (pe_callS G_row_in (hr.mono (by decide)) rfl T.m_row_in T.k_row_in T.b_row_in (fun σ => passAt tk σ) (pa_cons (pv 5) pa_nil)))
      (pss_one (ps_if (PW.pt (pw_and (pt_cmpR op_notU (pv 6) pe_non (nomark _)) (pw_and1 (pt_cmpR (op_eqU (hr.units)) (pv 2) (pe_lst pa_nil) (nomark _))))) (pss_one (ps_expr (pe_bm PySem.F.plainAttrs_list PySem.F.slot_list_append PySem.F.type_list_append mt_append (pv 1) (pa_cons (pv 6) pa_nil)))) (pss_one (ps_if (pt_cmpR op_notU (pv 7) pe_non (nomark _)) (pss_one (ps_expr (pe_bm PySem.F.plainAttrs_list PySem.F.slot_list_append PySem.F.type_list_append mt_append (pv 2) (pa_cons (pv 7) pa_nil)))) (pss_one (ps_raiseO rfl tk T.ox_NoText T.oi_NoText T.ot_NoText G_NoText_init (hr.mono (by decide)) T.b_NoText_init passF rfl T.g_NoText (pa_cons (pv 3) pa_nil)))))))))))
      (pss_one (ps_ret (pe_callS G_code_of (hr.mono (by decide)) rfl T.m_code_of T.k_code_of T.b_code_of (fun σ => passAt tk σ) (pa_cons (pv 1) (pa_cons (pv 2) pa_nil)))))))))

theorem sc_Lpen : FnScope nm_Lpen ["_law_script", "_law_k"] (defScope st_Lpen) := ⟨rfl, rfl, rfl, by decide +kernel, rfl, by decide +kernel, by decide +kernel⟩
theorem ok_Lpen {P : Program} {base : Heap} {Z : Adr} (T : Top Z)  : FnOk P Z.w Z.K Z.mg base (L2.CX P Z.w) 1 Z.f_Lpen Z.d_Lpen ["_law_script", "_law_k"] (sp_Lpen Z) := by
  refine FnOk.mono (T.F_Lpen.okX (k := 0) sc_Lpen (fun vs H Q E h => ?_) (fun cdv A outer s H vs Q E hr h => ?_)) (by decide)
  · obtain ⟨a0, a1, rfl, _⟩ := h; rfl
  · obtain ⟨a0, a1, rfl, h⟩ := h
    have tk : Takes (cxOf (L2.CX P Z.w) P Z.w Z.K Z.mg base nm_Lpen "_law_pen" (defScope st_Lpen) Z.f_Lpen cdv A outer s H E) (fun cls d _ H => E cls d H) := takes_of rfl rfl rfl rfl
    have po : PassesOwn (model P Z.w) (cxOf (L2.CX P Z.w) P Z.w Z.K Z.mg base nm_Lpen "_law_pen" (defScope st_Lpen) Z.f_Lpen cdv A outer s H E).A (cxOf (L2.CX P Z.w) P Z.w Z.K Z.mg base nm_Lpen "_law_pen" (defScope st_Lpen) Z.f_Lpen cdv A outer s H E).env (cxOf (L2.CX P Z.w) P Z.w Z.K Z.mg base nm_Lpen "_law_pen" (defScope st_Lpen) Z.f_Lpen cdv A outer s H E).xe := passes_of rfl
    refine ⟨t_Lpen Z (fun cls d _ H => E cls d H), ?_, rd_Lpen T h⟩
    exact (pss_cons (ps_set (i := 2) sc_Lpen.nd rfl (Or.inl rfl) (pe_op op_addU (pe_op op_ml pe_int (pv 1)) pe_int))
      (C8.pss_cut (ps_if (pt_cmpR op_lt (pv 1) (pe_callB call_len' (by rfl) T.n_len (by decide +kernel) (pa_cons (pv 0) pa_nil)) (nomark _)) (pss_one (ps_set (i := 2) sc_Lpen.nd rfl (Or.inl rfl) (pe_ix ix_seq (pv 0) (pv 1) (fun _ _ => rfl)))) (pss_one (ps_if (pt_cmpR op_gt (pe_callB call_len' (by rfl) T.n_len (by decide +kernel) (pa_cons (pv 0) pa_nil)) pe_int (nomark _)) (pss_one (ps_set (i := 2) sc_Lpen.nd rfl (Or.inl rfl) (pe_op op_addU (pe_op op_md (pe_ix ix_seq (pv 0) (pe_op op_md (pv 1) (pe_callB call_len' (by rfl) T.n_len (by decide +kernel) (pa_cons (pv 0) pa_nil))) (fun _ _ => rfl)) pe_int) (pe_op op_ml pe_int (pv 1))))) pss_nil)))
      (pss_cons (ps_if (pt_cmpR op_ge (pv 2) (pe_powc (by unfold CPow; decide) (by decide +kernel)) (nomark _)) (pss_one (ps_ret (pe_lst (pa_cons (pe_op op_sub (pv 2) (pe_powc (by unfold CPow; decide) (by decide +kernel))) (pa_cons (pe_op op_md (pv 2) pe_int) (pa_cons pe_int pa_nil)))))) pss_nil)
      (pss_one (ps_ret (pe_lst (pa_cons pe_int (pa_cons (pe_op op_md (pv 2) pe_int) (pa_cons pe_int pa_nil)))))))))

theorem sc_Ldraw : FnScope nm_Ldraw ["_law_pen_here", "_law_many"] (defScope st_Ldraw) := ⟨rfl, rfl, rfl, by decide +kernel, rfl, by decide +kernel, by decide +kernel⟩
theorem ok_Ldraw {P : Program} {base : Heap} {Z : Adr} (T : Top Z)  : FnOk P Z.w Z.K Z.mg base (L2.CX P Z.w) 1 Z.f_Ldraw Z.d_Ldraw ["_law_pen_here", "_law_many"] (sp_Ldraw Z) := by
  refine FnOk.mono (T.F_Ldraw.okX (k := 0) sc_Ldraw (fun vs H Q E h => ?_) (fun cdv A outer s H vs Q E hr h => ?_)) (by decide)
  · obtain ⟨a0, a1, rfl, _⟩ := h; rfl
  · obtain ⟨a0, a1, rfl, h⟩ := h
    have tk : Takes (cxOf (L2.CX P Z.w) P Z.w Z.K Z.mg base nm_Ldraw "_law_draw" (defScope st_Ldraw) Z.f_Ldraw cdv A outer s H E) (fun cls d _ H => E cls d H) := takes_of rfl rfl rfl rfl
    have po : PassesOwn (model P Z.w) (cxOf (L2.CX P Z.w) P Z.w Z.K Z.mg base nm_Ldraw "_law_draw" (defScope st_Ldraw) Z.f_Ldraw cdv A outer s H E).A (cxOf (L2.CX P Z.w) P Z.w Z.K Z.mg base nm_Ldraw "_law_draw" (defScope st_Ldraw) Z.f_Ldraw cdv A outer s H E).env (cxOf (L2.CX P Z.w) P Z.w Z.K Z.mg base nm_Ldraw "_law_draw" (defScope st_Ldraw) Z.f_Ldraw cdv A outer s H E).xe := passes_of rfl
    refine ⟨t_Ldraw Z (fun cls d _ H => E cls d H), ?_, rd_Ldraw T h⟩
    exact (pss_cons (ps_asg (pe_op op_addU (pe_ix ix_seq (pv 0) pe_int (fun _ _ => rfl)) pe_int) (pg_sub (pv 0) pe_int set_list))
      (pss_cons (ps_if (pt_cmpR op_gt (pe_ix ix_seq (pv 0) pe_int (fun _ _ => rfl)) pe_int (nomark _)) (pss_cons (ps_set (i := 2) sc_Ldraw.nd rfl (Or.inl rfl) (pe_op op_md (pe_ix ix_seq (pv 0) pe_int (fun _ _ => rfl)) (pv 1)))
      (pss_cons (ps_asg (pe_op op_fdv (pe_ix ix_seq (pv 0) pe_int (fun _ _ => rfl)) (pv 1)) (pg_sub (pv 0) pe_int set_list))
      (pss_one (ps_ret (pv 2))))) pss_nil)
      (pss_cons (ps_set (i := 3) sc_Ldraw.nd rfl (Or.inl rfl) (pe_op op_md (pe_op op_addU (pe_op op_addU (pe_ix ix_seq (pv 0) pe_int (fun _ _ => rfl)) (pe_op op_ml pe_int (pe_ix ix_seq (pv 0) pe_int (fun _ _ => rfl)))) pe_int) pe_int))
      (pss_cons (ps_set (i := 3) sc_Ldraw.nd rfl (Or.inl rfl) (pe_op op_addU (pe_op op_md (pe_op op_ml (pv 3) (pv 3)) pe_int) (pe_op op_ml pe_int (pe_ix ix_seq (pv 0) pe_int (fun _ _ => rfl)))))
      (pss_cons (ps_set (i := 3) sc_Ldraw.nd rfl (Or.inl rfl) (pe_op op_md (pe_op op_ml (pv 3) (pv 3)) pe_int))
      (pss_one (ps_ret (pe_op op_md (pe_op op_fdv (pv 3) pe_int) (pv 1)))))))))

theorem sc_Lnumber : FnScope nm_Lnumber ["_law_pen_here", "_law_greats"] (defScope st_Lnumber) := ⟨rfl, rfl, rfl, by decide +kernel, rfl, by decide +kernel, by decide +kernel⟩
theorem ok_Lnumber {P : Program} {base : Heap} {Z : Adr} (T : Top Z) (G_Ldraw : FnOk P Z.w Z.K Z.mg base (L2.CX P Z.w) 1 Z.f_Ldraw Z.d_Ldraw ["_law_pen_here", "_law_many"] (sp_Ldraw Z)) : FnOk P Z.w Z.K Z.mg base (L2.CX P Z.w) 2 Z.f_Lnumber Z.d_Lnumber ["_law_pen_here", "_law_greats"] (sp_Lnumber Z) := by
  refine FnOk.mono (T.F_Lnumber.okX (k := 1) sc_Lnumber (fun vs H Q E h => ?_) (fun cdv A outer s H vs Q E hr h => ?_)) (by decide)
  · obtain ⟨a0, a1, rfl, _⟩ := h; rfl
  · obtain ⟨a0, a1, rfl, h⟩ := h
    have tk : Takes (cxOf (L2.CX P Z.w) P Z.w Z.K Z.mg base nm_Lnumber "_law_number" (defScope st_Lnumber) Z.f_Lnumber cdv A outer s H E) (fun cls d _ H => E cls d H) := takes_of rfl rfl rfl rfl
    have po : PassesOwn (model P Z.w) (cxOf (L2.CX P Z.w) P Z.w Z.K Z.mg base nm_Lnumber "_law_number" (defScope st_Lnumber) Z.f_Lnumber cdv A outer s H E).A (cxOf (L2.CX P Z.w) P Z.w Z.K Z.mg base nm_Lnumber "_law_number" (defScope st_Lnumber) Z.f_Lnumber cdv A outer s H E).env (cxOf (L2.CX P Z.w) P Z.w Z.K Z.mg base nm_Lnumber "_law_number" (defScope st_Lnumber) Z.f_Lnumber cdv A outer s H E).xe := passes_of rfl
    refine ⟨t_Lnumber Z (fun cls d _ H => E cls d H), ?_, rd_Lnumber T h⟩
    exact (pss_cons (ps_set (i := 2) sc_Lnumber.nd rfl (Or.inl rfl) (pe_callS G_Ldraw (hr.mono (by decide)) rfl T.m_Ldraw T.k_Ldraw T.b_Ldraw (fun σ => passAt tk σ) (pa_cons (pv 0) (pa_cons pe_int pa_nil))))
      (pss_cons (ps_if (pt_cmpR op_lt (pv 2) pe_int (nomark _)) (pss_one (ps_ret (pe_op op_sub (pe_callS G_Ldraw (hr.mono (by decide)) rfl T.m_Ldraw T.k_Ldraw T.b_Ldraw (fun σ => passAt tk σ) (pa_cons (pv 0) (pa_cons pe_int pa_nil))) pe_int))) pss_nil)
      (pss_cons (ps_if (pt_cmpR (op_eqU (hr.units)) (pv 2) pe_int (nomark _)) (pss_one (ps_ret (pe_op op_sub (pe_callS G_Ldraw (hr.mono (by decide)) rfl T.m_Ldraw T.k_Ldraw T.b_Ldraw (fun σ => passAt tk σ) (pa_cons (pv 0) (pa_cons pe_int pa_nil))) pe_int))) pss_nil)
      (pss_cons (ps_set (i := 3) sc_Lnumber.nd rfl (Or.inl rfl) (pe_ix ix_seq (pe_lst (pa_cons (pe_powc (by unfold CPow; decide) (by decide +kernel)) (pa_cons (pe_op op_ml (pe_powc (by unfold CPow; decide) (by decide +kernel)) (pe_powc (by unfold CPow; decide) (by decide +kernel))) (pa_cons (pe_powc (by unfold CPow; decide) (by decide +kernel)) (pa_cons (pe_powc (by unfold CPow; decide) (by decide +kernel)) pa_nil))))) (pe_callS G_Ldraw (hr.mono (by decide)) rfl T.m_Ldraw T.k_Ldraw T.b_Ldraw (fun σ => passAt tk σ) (pa_cons (pv 0) (pa_cons (pv 1) pa_nil))) (fun _ _ => rfl)))
      (pss_one (ps_ret (pe_op op_ml (pe_op op_sub (pe_op op_sub (pv 3) pe_int) (pe_callS G_Ldraw (hr.mono (by decide)) rfl T.m_Ldraw T.k_Ldraw T.b_Ldraw (fun σ => passAt tk σ) (pa_cons (pv 0) (pa_cons (pe_powc (by unfold CPow; decide) (by decide +kernel)) pa_nil)))) (pe_op op_sub pe_int (pe_op op_ml pe_int (pe_callS G_Ldraw (hr.mono (by decide)) rfl T.m_Ldraw T.k_Ldraw T.b_Ldraw (fun σ => passAt tk σ) (pa_cons (pv 0) (pa_cons pe_int pa_nil))))))))))))

theorem sc_Lrow : FnScope nm_Lrow ["_law_pen_here", "_law_many", "_law_rows", "_law_greats"] (defScope st_Lrow) := ⟨rfl, rfl, rfl, by decide +kernel, rfl, by decide +kernel, by decide +kernel⟩
theorem ok_Lrow {P : Program} {base : Heap} {Z : Adr} (T : Top Z) (G_Ldraw : FnOk P Z.w Z.K Z.mg base (L2.CX P Z.w) 1 Z.f_Ldraw Z.d_Ldraw ["_law_pen_here", "_law_many"] (sp_Ldraw Z)) (G_Lnumber : FnOk P Z.w Z.K Z.mg base (L2.CX P Z.w) 2 Z.f_Lnumber Z.d_Lnumber ["_law_pen_here", "_law_greats"] (sp_Lnumber Z)) : FnOk P Z.w Z.K Z.mg base (L2.CX P Z.w) 3 Z.f_Lrow Z.d_Lrow ["_law_pen_here", "_law_many", "_law_rows", "_law_greats"] (sp_Lrow Z) := by
  refine FnOk.mono (T.F_Lrow.okX (k := 2) sc_Lrow (fun vs H Q E h => ?_) (fun cdv A outer s H vs Q E hr h => ?_)) (by decide)
  · obtain ⟨a0, a1, a2, a3, rfl, _⟩ := h; rfl
  · obtain ⟨a0, a1, a2, a3, rfl, h⟩ := h
    have tk : Takes (cxOf (L2.CX P Z.w) P Z.w Z.K Z.mg base nm_Lrow "_law_row" (defScope st_Lrow) Z.f_Lrow cdv A outer s H E) (fun cls d _ H => E cls d H) := takes_of rfl rfl rfl rfl
    have po : PassesOwn (model P Z.w) (cxOf (L2.CX P Z.w) P Z.w Z.K Z.mg base nm_Lrow "_law_row" (defScope st_Lrow) Z.f_Lrow cdv A outer s H E).A (cxOf (L2.CX P Z.w) P Z.w Z.K Z.mg base nm_Lrow "_law_row" (defScope st_Lrow) Z.f_Lrow cdv A outer s H E).env (cxOf (L2.CX P Z.w) P Z.w Z.K Z.mg base nm_Lrow "_law_row" (defScope st_Lrow) Z.f_Lrow cdv A outer s H E).xe := passes_of rfl
    refine ⟨t_Lrow Z (fun cls d _ H => E cls d H), ?_, rd_Lrow T h⟩
    exact (pss_cons (ps_set (i := 4) sc_Lrow.nd rfl (Or.inl rfl) (pe_callS G_Ldraw (hr.mono (by decide)) rfl T.m_Ldraw T.k_Ldraw T.b_Ldraw (fun σ => passAt tk σ) (pa_cons (pv 0) (pa_cons pe_int pa_nil))))
      (pss_cons (ps_set (i := 5) sc_Lrow.nd rfl (Or.inl rfl) (pe_ix ix_seq (pe_lst (pa_cons pe_str (pa_cons pe_str (pa_cons pe_str (pa_cons pe_str (pa_cons pe_str (pa_cons pe_str (pa_cons pe_str (pa_cons pe_str (pa_cons pe_str (pa_cons pe_str (pa_cons pe_str (pa_cons pe_str pa_nil))))))))))))) (pv 4) (fun _ _ => rfl)))
      (pss_cons (ps_if (pt_cmpR op_in_seq (pv 4) (pe_tup (pa_cons pe_int (pa_cons pe_int (pa_cons pe_int (pa_cons pe_int pa_nil))))) (by rfl)) (pss_one (ps_ret (pe_tup (pa_cons (pv 4) (pa_cons pe_int (pa_cons (pv 5) pa_nil)))))) pss_nil)
      (pss_cons (ps_if (pt_cmpR (op_eqU (hr.units)) (pv 4) pe_int (nomark _)) (pss_cons (ps_set (i := 6) sc_Lrow.nd rfl (Or.inl rfl) (pe_op op_addU pe_int (pe_callS G_Ldraw (hr.mono (by decide)) rfl T.m_Ldraw T.k_Ldraw T.b_Ldraw (fun σ => passAt tk σ) (pa_cons (pv 0) (pa_cons pe_int pa_nil)))))
      (pss_cons (ps_set (i := 7) sc_Lrow.nd rfl (Or.inl rfl) (pe_lst (pa_cons pe_str (pa_cons pe_str (pa_cons pe_str (pa_cons pe_str (pa_cons pe_str (pa_cons pe_str (pa_cons pe_str (pa_cons pe_str (pa_cons pe_str (pa_cons pe_str (pa_cons pe_str (pa_cons pe_str pa_nil))))))))))))))
      (pss_one (ps_ret (pe_tup (pa_cons (pv 4) (pa_cons (pv 6) (pa_cons (pe_ix ix_seq (pv 7) (pe_op op_sub (pv 6) pe_int) (fun _ _ => rfl)) pa_nil)))))))) pss_nil)
      (pss_cons (ps_set (i := 8) sc_Lrow.nd rfl (Or.inl rfl) (pe_callS G_Lnumber (hr.mono (by decide)) rfl T.m_Lnumber T.k_Lnumber T.b_Lnumber (fun σ => passAt tk σ) (pa_cons (pv 0) (pa_cons (pv 3) pa_nil))))
      (C8.pss_cut (ps_if (pt_cmpR op_in_seq (pv 4) (pe_tup (pa_cons pe_int (pa_cons pe_int pa_nil))) (by rfl)) (pss_one (ps_set (i := 8) sc_Lrow.nd rfl (Or.inl rfl) (pe_callS G_Ldraw (hr.mono (by decide)) rfl T.m_Ldraw T.k_Ldraw T.b_Ldraw (fun σ => passAt tk σ) (pa_cons (pv 0) (pa_cons pe_int pa_nil))))) pss_nil)
      (C8.pss_cut (ps_if (pt_cmpR op_in_seq (pv 4) (pe_tup (pa_cons pe_int (pa_cons pe_int pa_nil))) (by rfl)) (pss_one (ps_set (i := 8) sc_Lrow.nd rfl (Or.inl rfl) (pe_callS G_Ldraw (hr.mono (by decide)) rfl T.m_Ldraw T.k_Ldraw T.b_Ldraw (fun σ => passAt tk σ) (pa_cons (pv 0) (pa_cons (pv 2) pa_nil))))) pss_nil)
      (C8.pss_cut (ps_if (pt_cmpR (op_eqU (hr.units)) (pv 4) pe_int (nomark _)) (pss_one (ps_set (i := 8) sc_Lrow.nd rfl (Or.inl rfl) (pe_callS G_Ldraw (hr.mono (by decide)) rfl T.m_Ldraw T.k_Ldraw T.b_Ldraw (fun σ => passAt tk σ) (pa_cons (pv 0) (pa_cons (pv 1) pa_nil))))) pss_nil)
      (C8.pss_cut (ps_if (pt_cmpR (op_eqU (hr.units)) (pv 4) pe_int (nomark _)) (pss_one (ps_set (i := 8) sc_Lrow.nd rfl (Or.inl rfl) (pe_op op_addU pe_int (pe_callS G_Ldraw (hr.mono (by decide)) rfl T.m_Ldraw T.k_Ldraw T.b_Ldraw (fun σ => passAt tk σ) (pa_cons (pv 0) (pa_cons pe_int pa_nil)))))) pss_nil)
      (pss_one (ps_ret (pe_tup (pa_cons (pv 4) (pa_cons (pv 8) (pa_cons (pe_op op_addU (pe_op op_addU (pv 5) pe_str) (pe_callTy call_str' (by rfl) T.n_str (by decide +kernel) (pa_cons (pv 8) pa_nil))) pa_nil)))))))))))))))

theorem sc_Lcode : FnScope nm_Lcode ["_law_pen_here", "_law_most", "_law_longest", "_law_greats"] (defScope st_Lcode) := ⟨rfl, rfl, rfl, by decide +kernel, rfl, by decide +kernel, by decide +kernel⟩
theorem ok_Lcode {P : Program} {base : Heap} {Z : Adr} (T : Top Z) (G_Ldraw : FnOk P Z.w Z.K Z.mg base (L2.CX P Z.w) 1 Z.f_Ldraw Z.d_Ldraw ["_law_pen_here", "_law_many"] (sp_Ldraw Z)) (G_Lrow : FnOk P Z.w Z.K Z.mg base (L2.CX P Z.w) 3 Z.f_Lrow Z.d_Lrow ["_law_pen_here", "_law_many", "_law_rows", "_law_greats"] (sp_Lrow Z)) : FnOk P Z.w Z.K Z.mg base (L2.CX P Z.w) 4 Z.f_Lcode Z.d_Lcode ["_law_pen_here", "_law_most", "_law_longest", "_law_greats"] (sp_Lcode Z) := by
  refine FnOk.mono (T.F_Lcode.okX (k := 3) sc_Lcode (fun vs H Q E h => ?_) (fun cdv A outer s H vs Q E hr h => ?_)) (by decide)
  · obtain ⟨a0, a1, a2, a3, rfl, _⟩ := h; rfl
  · obtain ⟨a0, a1, a2, a3, rfl, h⟩ := h
    have tk : Takes (cxOf (L2.CX P Z.w) P Z.w Z.K Z.mg base nm_Lcode "_law_code" (defScope st_Lcode) Z.f_Lcode cdv A outer s H E) (fun cls d _ H => E cls d H) := takes_of rfl rfl rfl rfl
    have po : PassesOwn (model P Z.w) (cxOf (L2.CX P Z.w) P Z.w Z.K Z.mg base nm_Lcode "_law_code" (defScope st_Lcode) Z.f_Lcode cdv A outer s H E).A (cxOf (L2.CX P Z.w) P Z.w Z.K Z.mg base nm_Lcode "_law_code" (defScope st_Lcode) Z.f_Lcode cdv A outer s H E).env (cxOf (L2.CX P Z.w) P Z.w Z.K Z.mg base nm_Lcode "_law_code" (defScope st_Lcode) Z.f_Lcode cdv A outer s H E).xe := passes_of rfl
    refine ⟨t_Lcode Z (fun cls d _ H => E cls d H), ?_, rd_Lcode T h⟩
    exact (pss_cons (ps_set (i := 4) sc_Lcode.nd rfl (Or.inl rfl) (pe_op op_addU pe_int (pe_callS G_Ldraw (hr.mono (by decide)) rfl T.m_Ldraw T.k_Ldraw T.b_Ldraw (fun σ => passAt tk σ) (pa_cons (pv 0) (pa_cons (pv 1) pa_nil)))))
      (pss_cons (ps_set (i := 5) sc_Lcode.nd rfl (Or.inl rfl) (pe_op op_addU pe_int (pe_callS G_Ldraw (hr.mono (by decide)) rfl T.m_Ldraw T.k_Ldraw T.b_Ldraw (fun σ => passAt tk σ) (pa_cons (pv 0) (pa_cons (pv 2) pa_nil)))))
      (pss_cons (ps_set (i := 6) sc_Lcode.nd rfl (Or.inl rfl) (pe_lst (pa_cons (pv 4) pa_nil)))
      (pss_cons (ps_set (i := 7) sc_Lcode.nd rfl (Or.inl rfl) (pe_lst pa_nil))
      (pss_cons (ps_for po rfl (pi_range1 rfl T.n_range (pa_cons (pv 4) pa_nil)) (pg_name (i := 8) sc_Lcode.nd rfl (Or.inl rfl)) (pss_cons (ps_set (i := 9) sc_Lcode.nd rfl (Or.inl rfl) (pe_op op_ml (pe_callS G_Ldraw (hr.mono (by decide)) rfl T.m_Ldraw T.k_Ldraw T.b_Ldraw (fun σ => passAt tk σ) (pa_cons (pv 0) (pa_cons pe_int pa_nil))) (pe_callTy call_int' (by rfl) T.n_int (by decide +kernel) (pa_cons (pe_cmpR op_gt (pv 8) pe_int (nomark _)) pa_nil))))
      (pss_cons (ps_set (i := 10) sc_Lcode.nd rfl (Or.inl rfl) (pe_lst (pa_cons (pe_callS G_Ldraw (hr.mono (by decide)) rfl T.m_Ldraw T.k_Ldraw T.b_Ldraw (fun σ => passAt tk σ) (pa_cons (pv 0) (pa_cons (pv 5) pa_nil))) (pa_cons (pv 9) (pa_cons (pe_op op_addU (pv 9) (pe_callS G_Ldraw (hr.mono (by decide)) rfl T.m_Ldraw T.k_Ldraw T.b_Ldraw (fun σ => passAt tk σ) (pa_cons (pv 0) (pa_cons (pe_op op_sub pe_int (pv 9)) pa_nil)))) pa_nil)))))
      (pss_cons (ps_expr (pe_bm PySem.F.plainAttrs_list PySem.F.slot_list_extend PySem.F.type_list_extend mt_extend (pv 6) (pa_cons (pv 10) pa_nil)))
      (pss_one (ps_expr (pe_bm PySem.F.plainAttrs_list PySem.F.slot_list_append PySem.F.type_list_append mt_append (pv 7) (pa_cons (pe_op op_addU pe_str (pe_bm PySem.F.plainAttrs_str PySem.F.slot_str_join PySem.F.type_str_join mt_join pe_str (pa_cons (pe_lc (own := [(".0", 14), ("_law_number_here", 11)]) (g := (gName 11)) (tt := tYes) rfl sc_Lcode.nd (pi_list (pv 10)) (blkOk_by (own := [(".0", 14), ("_law_number_here", 11)]) (N := nm_Lcode) (sc := defScope st_Lcode) (by decide +kernel)) (fun _ _ _ _ _ => (pg_name (i := 11) sc_Lcode.nd rfl (Or.inl rfl))) (fun _ _ _ _ _ => pts_nil) (fun _ _ _ _ _ => (pe_callTy call_str' (by rfl) T.n_str (by decide +kernel) (pa_cons (pv 11) pa_nil)))) pa_nil))) pa_nil))))))))
      (pss_cons (ps_for po rfl (pi_range1 rfl T.n_range (pa_cons (pv 5) pa_nil)) (pg_name (i := 8) sc_Lcode.nd rfl (Or.inl rfl)) (pss_cons (ps_asg (pe_callS G_Lrow (hr.mono (by decide)) rfl T.m_Lrow T.k_Lrow T.b_Lrow (fun σ => passAt tk σ) (pa_cons (pv 0) (pa_cons (pv 4) (pa_cons (pv 5) (pa_cons (pv 3) pa_nil))))) (pg_un rfl (pgs_cons (pg_name (i := 12) sc_Lcode.nd rfl (Or.inl rfl)) (pgs_cons (pg_name (i := 11) sc_Lcode.nd rfl (Or.inl rfl)) (pgs_cons (pg_name (i := 13) sc_Lcode.nd rfl (Or.inl rfl)) pgs_nil)))))
      (pss_cons (ps_expr (pe_bm PySem.F.plainAttrs_list PySem.F.slot_list_extend PySem.F.type_list_extend mt_extend (pv 6) (pa_cons (pe_lst (pa_cons (pv 12) (pa_cons (pv 11) pa_nil))) pa_nil)))
      (pss_one (ps_expr (pe_bm PySem.F.plainAttrs_list PySem.F.slot_list_append PySem.F.type_list_append mt_append (pv 7) (pa_cons (pv 13) pa_nil)))))))
      (pss_one (ps_ret (pe_tup (pa_cons (pv 6) (pa_cons (pv 7) pa_nil)))))))))))

theorem sc_Lcaught : FnScope nm_Lcaught ["_law_text"] (defScope st_Lcaught) := ⟨rfl, rfl, rfl, by decide +kernel, rfl, by decide +kernel, by decide +kernel⟩
theorem ok_Lcaught {P : Program} {base : Heap} {Z : Adr} (T : Top Z) (G_read_code : FnOk P Z.w Z.K Z.mg base (L2.CX P Z.w) 5 Z.f_read_code Z.d_read_code ["text"] (sp_read_code Z)) : FnOk P Z.w Z.K Z.mg base (L2.CX P Z.w) 6 Z.f_Lcaught Z.d_Lcaught ["_law_text"] (sp_Lcaught Z) := by
  refine FnOk.mono (T.F_Lcaught.okX (k := 5) sc_Lcaught (fun vs H Q E h => ?_) (fun cdv A outer s H vs Q E hr h => ?_)) (by decide)
  · obtain ⟨a0, rfl, _⟩ := h; rfl
  · obtain ⟨a0, rfl, h⟩ := h
    have tk : Takes (cxOf (L2.CX P Z.w) P Z.w Z.K Z.mg base nm_Lcaught "_law_caught" (defScope st_Lcaught) Z.f_Lcaught cdv A outer s H E) (fun cls d _ H => E cls d H) := takes_of rfl rfl rfl rfl
    have po : PassesOwn (model P Z.w) (cxOf (L2.CX P Z.w) P Z.w Z.K Z.mg base nm_Lcaught "_law_caught" (defScope st_Lcaught) Z.f_Lcaught cdv A outer s H E).A (cxOf (L2.CX P Z.w) P Z.w Z.K Z.mg base nm_Lcaught "_law_caught" (defScope st_Lcaught) Z.f_Lcaught cdv A outer s H E).env (cxOf (L2.CX P Z.w) P Z.w Z.K Z.mg base nm_Lcaught "_law_caught" (defScope st_Lcaught) Z.f_Lcaught cdv A outer s H E).xe := passes_of rfl
    refine ⟨t_Lcaught Z (fun cls d _ H => E cls d H), ?_, rd_Lcaught T h⟩
    exact (pss_cons (ps_set (i := 1) sc_Lcaught.nd rfl (Or.inl rfl) pe_non)
      (pss_cons (ps_try_keep (i := 2) (tb := (fun W => (tDrop (tCallS (sp_read_code Z) (WE W) (tCons (tVar 0) tNil))))) (ts := (tAsg (tVar 2) (gName 1))) rfl rfl rfl sc_Lcaught.nd rfl rfl ⟨rfl, by decide, Or.inl T.g_ChainError⟩ tk (fun W pn xe tk po => (pss_one (ps_expr (pe_callS G_read_code (hr.mono (by decide)) rfl T.m_read_code T.k_read_code T.b_read_code (fun σ => passAt tk σ) (pa_cons (pv 0) pa_nil))))) (fun a oe pn => (pss_one (ps_set (i := 1) sc_Lcaught.nd rfl (Or.inl rfl) (pv 2)))))
      (pss_cons (ps_if (PW.pt (pw_or (pt_not (pt_val (pe_callB call_isi3 (by rfl) T.n_isinstance (by decide +kernel) (pa_cons (pv 1) (pa_cons (pe_bltn (by rfl) T.n_ValueError (by decide +kernel) rfl) pa_nil))))) (pw_or1 (pt_val (pe_callB call_isi3 (by rfl) T.n_isinstance (by decide +kernel) (pa_cons (pv 1) (pa_cons (pe_tup (pa_cons (pe_glob rfl T.g_NoName rfl) (pa_cons (pe_glob rfl T.g_NoRow rfl) (pa_cons (pe_glob rfl T.g_NoSheet rfl) pa_nil)))) pa_nil))))))) (pss_one (ps_ret pe_str)) pss_nil)
      (pss_cons (ps_if (PW.pt (pw_and (pt_val (pe_callB call_isi3 (by rfl) T.n_isinstance (by decide +kernel) (pa_cons (pv 1) (pa_cons (pe_glob rfl T.g_NoText rfl) pa_nil)))) (pw_and1 (pt_not (pt_val (pe_callB call_isi3 (by rfl) T.n_isinstance (by decide +kernel) (pa_cons (pv 1) (pa_cons (pe_glob rfl T.g_NoCode rfl) pa_nil)))))))) (pss_one (ps_ret (pe_ix ix_seq (pe_lst (pa_cons pe_str (pa_cons (pe_kf (pv 1)) pa_nil))) (pe_callTy call_int' (by rfl) T.n_int (by decide +kernel) (pa_cons (pe_and (pe_callB call_isi' (by rfl) T.n_isinstance (by decide +kernel) (pa_cons (pe_kf (pv 1)) (pa_cons (pe_bltn (by rfl) T.n_int (by decide +kernel) rfl) pa_nil))) (pe_one (pe_not (pe_callB call_isi' (by rfl) T.n_isinstance (by decide +kernel) (pa_cons (pe_kf (pv 1)) (pa_cons (pe_bltn (by rfl) T.n_bool (by decide +kernel) rfl) pa_nil)))))) pa_nil)) (fun _ _ => rfl)))) pss_nil)
      (pss_one (ps_ret (pe_ix ix_seq (pe_lst (pa_cons pe_str (pa_cons pe_str pa_nil))) (pe_callTy call_int' (by rfl) T.n_int (by decide +kernel) (pa_cons (pe_and (pe_callB call_isi3 (by rfl) T.n_isinstance (by decide +kernel) (pa_cons (pv 1) (pa_cons (pe_glob rfl T.g_NoCode rfl) pa_nil))) (pe_one (pe_not (pe_callB call_isi3 (by rfl) T.n_isinstance (by decide +kernel) (pa_cons (pv 1) (pa_cons (pe_glob rfl T.g_NoText rfl) pa_nil)))))) pa_nil)) (fun _ _ => rfl))))))))

theorem sc_Lbad_lines : FnScope nm_Lbad_lines ["_law_is_head"] (defScope st_Lbad_lines) := ⟨rfl, rfl, rfl, by decide +kernel, rfl, by decide +kernel, by decide +kernel⟩
theorem ok_Lbad_lines {P : Program} {base : Heap} {Z : Adr} (T : Top Z)  : FnOk P Z.w Z.K Z.mg base (L2.CX P Z.w) 1 Z.f_Lbad_lines Z.d_Lbad_lines ["_law_is_head"] (sp_Lbad_lines Z) := by
  refine FnOk.mono (T.F_Lbad_lines.okX (k := 0) sc_Lbad_lines (fun vs H Q E h => ?_) (fun cdv A outer s H vs Q E hr h => ?_)) (by decide)
  · obtain ⟨a0, rfl, _⟩ := h; rfl
  · obtain ⟨a0, rfl, h⟩ := h
    have tk : Takes (cxOf (L2.CX P Z.w) P Z.w Z.K Z.mg base nm_Lbad_lines "_law_bad_lines" (defScope st_Lbad_lines) Z.f_Lbad_lines cdv A outer s H E) (fun cls d _ H => E cls d H) := takes_of rfl rfl rfl rfl
    have po : PassesOwn (model P Z.w) (cxOf (L2.CX P Z.w) P Z.w Z.K Z.mg base nm_Lbad_lines "_law_bad_lines" (defScope st_Lbad_lines) Z.f_Lbad_lines cdv A outer s H E).A (cxOf (L2.CX P Z.w) P Z.w Z.K Z.mg base nm_Lbad_lines "_law_bad_lines" (defScope st_Lbad_lines) Z.f_Lbad_lines cdv A outer s H E).env (cxOf (L2.CX P Z.w) P Z.w Z.K Z.mg base nm_Lbad_lines "_law_bad_lines" (defScope st_Lbad_lines) Z.f_Lbad_lines cdv A outer s H E).xe := passes_of rfl
    refine ⟨t_Lbad_lines Z (fun cls d _ H => E cls d H), ?_, rd_Lbad_lines T h⟩
    exact (pss_cons (ps_set (i := 1) sc_Lbad_lines.nd rfl (Or.inl rfl) (pe_lst (pa_cons pe_str (pa_cons pe_str (pa_cons pe_str (pa_cons pe_str (pa_cons pe_str (pa_cons pe_str (pa_cons pe_str (pa_cons pe_str (pa_cons pe_str (pa_cons pe_str pa_nil))))))))))))
      (pss_cons (ps_set (i := 1) sc_Lbad_lines.nd rfl (Or.inl rfl) (pe_op op_addU (pv 1) (pe_lst (pa_cons pe_str (pa_cons (pe_op op_addU pe_str (pe_op op_repS pe_str pe_int)) (pa_cons (pe_op op_addU pe_str (pe_op op_repS pe_str pe_int)) (pa_cons pe_str (pa_cons pe_str (pa_cons pe_str (pa_cons pe_str (pa_cons pe_str (pa_cons pe_str (pa_cons pe_str pa_nil)))))))))))))
      (pss_cons (ps_set (i := 1) sc_Lbad_lines.nd rfl (Or.inl rfl) (pe_op op_addU (pv 1) (pe_lst (pa_cons pe_str (pa_cons pe_str (pa_cons pe_str (pa_cons pe_str (pa_cons pe_str (pa_cons pe_str (pa_cons pe_str (pa_cons pe_str (pa_cons pe_str (pa_cons pe_str (pa_cons pe_str pa_nil))))))))))))))
      (pss_cons (ps_set (i := 1) sc_Lbad_lines.nd rfl (Or.inl rfl) (pe_op op_addU (pv 1) (pe_lst (pa_cons pe_str (pa_cons pe_str (pa_cons pe_str (pa_cons pe_str (pa_cons pe_str (pa_cons pe_str (pa_cons pe_str (pa_cons pe_str (pa_cons pe_str (pa_cons pe_str pa_nil)))))))))))))
      (pss_cons (ps_set (i := 1) sc_Lbad_lines.nd rfl (Or.inl rfl) (pe_op op_addU (pv 1) (pe_lst (pa_cons pe_str (pa_cons pe_str (pa_cons pe_str (pa_cons pe_str (pa_cons pe_str (pa_cons pe_str (pa_cons pe_str (pa_cons pe_str (pa_cons pe_str (pa_cons pe_str (pa_cons pe_str pa_nil))))))))))))))
      (pss_one (ps_ret (pe_op op_addU (pv 1) (pe_op op_rep (pe_lst (pa_cons pe_str pa_nil)) (pe_op op_ml pe_int (pe_callTy call_int' (by rfl) T.n_int (by decide +kernel) (pa_cons (pe_not (pv 0)) pa_nil))))))))))))

theorem sc_Lline_exchanged : FnScope nm_Lline_exchanged ["_law_pen_here", "_law_lines", "_law_many"] (defScope st_Lline_exchanged) := ⟨rfl, rfl, rfl, by decide +kernel, rfl, by decide +kernel, by decide +kernel⟩
theorem ok_Lline_exchanged {P : Program} {base : Heap} {Z : Adr} (T : Top Z) (G_Ldraw : FnOk P Z.w Z.K Z.mg base (L2.CX P Z.w) 1 Z.f_Ldraw Z.d_Ldraw ["_law_pen_here", "_law_many"] (sp_Ldraw Z)) (G_Lbad_lines : FnOk P Z.w Z.K Z.mg base (L2.CX P Z.w) 1 Z.f_Lbad_lines Z.d_Lbad_lines ["_law_is_head"] (sp_Lbad_lines Z)) : FnOk P Z.w Z.K Z.mg base (L2.CX P Z.w) 2 Z.f_Lline_exchanged Z.d_Lline_exchanged ["_law_pen_here", "_law_lines", "_law_many"] (sp_Lline_exchanged Z) := by
  refine FnOk.mono (T.F_Lline_exchanged.okX (k := 1) sc_Lline_exchanged (fun vs H Q E h => ?_) (fun cdv A outer s H vs Q E hr h => ?_)) (by decide)
  · obtain ⟨a0, a1, a2, rfl, _⟩ := h; rfl
  · obtain ⟨a0, a1, a2, rfl, h⟩ := h
    have tk : Takes (cxOf (L2.CX P Z.w) P Z.w Z.K Z.mg base nm_Lline_exchanged "_law_line_exchanged" (defScope st_Lline_exchanged) Z.f_Lline_exchanged cdv A outer s H E) (fun cls d _ H => E cls d H) := takes_of rfl rfl rfl rfl
    have po : PassesOwn (model P Z.w) (cxOf (L2.CX P Z.w) P Z.w Z.K Z.mg base nm_Lline_exchanged "_law_line_exchanged" (defScope st_Lline_exchanged) Z.f_Lline_exchanged cdv A outer s H E).A (cxOf (L2.CX P Z.w) P Z.w Z.K Z.mg base nm_Lline_exchanged "_law_line_exchanged" (defScope st_Lline_exchanged) Z.f_Lline_exchanged cdv A outer s H E).env (cxOf (L2.CX P Z.w) P Z.w Z.K Z.mg base nm_Lline_exchanged "_law_line_exchanged" (defScope st_Lline_exchanged) Z.f_Lline_exchanged cdv A outer s H E).xe := passes_of rfl
    refine ⟨t_Lline_exchanged Z (fun cls d _ H => E cls d H), ?_, rd_Lline_exchanged T h⟩
    exact (pss_cons (ps_set (i := 3) sc_Lline_exchanged.nd rfl (Or.inl rfl) (pe_callS G_Ldraw (hr.mono (by decide)) rfl T.m_Ldraw T.k_Ldraw T.b_Ldraw (fun σ => passAt tk σ) (pa_cons (pv 0) (pa_cons (pe_callB call_len' (by rfl) T.n_len (by decide +kernel) (pa_cons (pv 1) pa_nil)) pa_nil))))
      (pss_cons (ps_set (i := 4) sc_Lline_exchanged.nd rfl (Or.inl rfl) (pe_callS G_Lbad_lines (hr.mono (by decide)) rfl T.m_Lbad_lines T.k_Lbad_lines T.b_Lbad_lines (fun σ => passAt tk σ) (pa_cons (pe_cmpR op_le (pv 3) (pv 2) (nomark _)) pa_nil)))
      (pss_cons (ps_set (i := 5) sc_Lline_exchanged.nd rfl (Or.inl rfl) (pe_op op_addU (pe_op op_addU (pe_slice sl_U (pv 1) po_none (po_some (pv 3))) (pe_lst (pa_cons (pe_ix ix_seq (pv 4) (pe_callS G_Ldraw (hr.mono (by decide)) rfl T.m_Ldraw T.k_Ldraw T.b_Ldraw (fun σ => passAt tk σ) (pa_cons (pv 0) (pa_cons (pe_callB call_len' (by rfl) T.n_len (by decide +kernel) (pa_cons (pv 4) pa_nil)) pa_nil))) (fun _ _ => rfl)) pa_nil))) (pe_slice sl_U (pv 1) (po_some (pe_op op_addU (pv 3) pe_int)) po_none)))
      (pss_cons (ps_set (i := 6) sc_Lline_exchanged.nd rfl (Or.inl rfl) (pe_op op_addU (pe_op op_addU (pv 3) pe_int) (pe_callS G_Ldraw (hr.mono (by decide)) rfl T.m_Ldraw T.k_Ldraw T.b_Ldraw (fun σ => passAt tk σ) (pa_cons (pv 0) (pa_cons (pe_callB call_len' (by rfl) T.n_len (by decide +kernel) (pa_cons (pv 1) pa_nil)) pa_nil)))))
      (C8.pss_cut (ps_if (pt_cmpR op_lt (pv 6) (pe_callB call_len' (by rfl) T.n_len (by decide +kernel) (pa_cons (pv 5) pa_nil)) (nomark _)) (pss_one (ps_asg (pe_ix ix_seq (pe_lst (pa_cons pe_str (pa_cons pe_str (pa_cons pe_str pa_nil)))) (pe_callS G_Ldraw (hr.mono (by decide)) rfl T.m_Ldraw T.k_Ldraw T.b_Ldraw (fun σ => passAt tk σ) (pa_cons (pv 0) (pa_cons pe_int pa_nil))) (fun _ _ => rfl)) (pg_sub (pv 5) (pv 6) set_list))) pss_nil)
      (pss_one (ps_ret (pe_tup (pa_cons (pe_bm PySem.F.plainAttrs_str PySem.F.slot_str_join PySem.F.type_str_join mt_join pe_str (pa_cons (pv 5) pa_nil)) (pa_cons (pv 3) pa_nil))))))))))

theorem sc_Lno_code : FnScope nm_Lno_code ["_law_pen_here", "_law_lines", "_law_many"] (defScope st_Lno_code) := ⟨rfl, rfl, rfl, by decide +kernel, rfl, by decide +kernel, by decide +kernel⟩
theorem ok_Lno_code {P : Program} {base : Heap} {Z : Adr} (T : Top Z) (G_Ldraw : FnOk P Z.w Z.K Z.mg base (L2.CX P Z.w) 1 Z.f_Ldraw Z.d_Ldraw ["_law_pen_here", "_law_many"] (sp_Ldraw Z)) : FnOk P Z.w Z.K Z.mg base (L2.CX P Z.w) 2 Z.f_Lno_code Z.d_Lno_code ["_law_pen_here", "_law_lines", "_law_many"] (sp_Lno_code Z) := by
  refine FnOk.mono (T.F_Lno_code.okX (k := 1) sc_Lno_code (fun vs H Q E h => ?_) (fun cdv A outer s H vs Q E hr h => ?_)) (by decide)
  · obtain ⟨a0, a1, a2, rfl, _⟩ := h; rfl
  · obtain ⟨a0, a1, a2, rfl, h⟩ := h
    have tk : Takes (cxOf (L2.CX P Z.w) P Z.w Z.K Z.mg base nm_Lno_code "_law_no_code" (defScope st_Lno_code) Z.f_Lno_code cdv A outer s H E) (fun cls d _ H => E cls d H) := takes_of rfl rfl rfl rfl
    have po : PassesOwn (model P Z.w) (cxOf (L2.CX P Z.w) P Z.w Z.K Z.mg base nm_Lno_code "_law_no_code" (defScope st_Lno_code) Z.f_Lno_code cdv A outer s H E).A (cxOf (L2.CX P Z.w) P Z.w Z.K Z.mg base nm_Lno_code "_law_no_code" (defScope st_Lno_code) Z.f_Lno_code cdv A outer s H E).env (cxOf (L2.CX P Z.w) P Z.w Z.K Z.mg base nm_Lno_code "_law_no_code" (defScope st_Lno_code) Z.f_Lno_code cdv A outer s H E).xe := passes_of rfl
    refine ⟨t_Lno_code Z (fun cls d _ H => E cls d H), ?_, rd_Lno_code T h⟩
    exact (pss_cons (ps_set (i := 3) sc_Lno_code.nd rfl (Or.inl rfl) (pe_op op_sub (pe_callB call_len' (by rfl) T.n_len (by decide +kernel) (pa_cons (pv 1) pa_nil)) (pv 2)))
      (pss_cons (ps_set (i := 4) sc_Lno_code.nd rfl (Or.inl rfl) (pe_callTy call_str' (by rfl) T.n_str (by decide +kernel) (pa_cons (pe_op op_addU (pv 3) (pe_callS G_Ldraw (hr.mono (by decide)) rfl T.m_Ldraw T.k_Ldraw T.b_Ldraw (fun σ => passAt tk σ) (pa_cons (pv 0) (pa_cons pe_int pa_nil)))) pa_nil)))
      (pss_cons (ps_set (i := 5) sc_Lno_code.nd rfl (Or.inl rfl) (pe_lst (pa_cons (pe_lst (pa_cons pe_str pa_nil)) (pa_cons (pe_lst (pa_cons (pe_op op_addU (pe_op op_addU pe_str (pv 4)) pe_str) pa_nil)) (pa_cons (pe_lst (pa_cons pe_str pa_nil)) (pa_cons (pe_lst (pa_cons pe_str pa_nil)) (pa_cons (pe_lst (pa_cons pe_str pa_nil)) (pa_cons (pe_op op_rep (pe_lst (pa_cons pe_str pa_nil)) pe_int) pa_nil))))))))
      (pss_cons (ps_set (i := 5) sc_Lno_code.nd rfl (Or.inl rfl) (pe_op op_addU (pv 5) (pe_lst (pa_cons (pe_lst (pa_cons pe_str (pa_cons pe_str pa_nil))) (pa_cons (pe_lst (pa_cons pe_str (pa_cons pe_str pa_nil))) (pa_cons (pe_lst (pa_cons pe_str (pa_cons pe_str pa_nil))) (pa_cons (pe_lst pa_nil) pa_nil)))))))
      (pss_cons (ps_set (i := 6) sc_Lno_code.nd rfl (Or.inl rfl) (pe_lst (pa_cons (pe_op op_addU pe_str (pv 4)) (pa_cons pe_str (pa_cons (pe_op op_addU pe_str (pe_callTy call_str' (by rfl) T.n_str (by decide +kernel) (pa_cons (pe_op op_addU (pv 2) (pe_callS G_Ldraw (hr.mono (by decide)) rfl T.m_Ldraw T.k_Ldraw T.b_Ldraw (fun σ => passAt tk σ) (pa_cons (pv 0) (pa_cons pe_int pa_nil)))) pa_nil))) (pa_cons pe_str (pa_cons pe_str (pa_cons pe_str pa_nil))))))))
      (pss_cons (ps_set (i := 6) sc_Lno_code.nd rfl (Or.inl rfl) (pe_op op_addU (pv 6) (pe_lst (pa_cons pe_str (pa_cons pe_str (pa_cons pe_str (pa_cons pe_str (pa_cons (pe_op op_addU pe_str (pv 4)) (pa_cons pe_str pa_nil)))))))))
      (pss_cons (ps_set (i := 7) sc_Lno_code.nd rfl (Or.inl rfl) (pe_callS G_Ldraw (hr.mono (by decide)) rfl T.m_Ldraw T.k_Ldraw T.b_Ldraw (fun σ => passAt tk σ) (pa_cons (pv 0) (pa_cons pe_int pa_nil))))
      (pss_cons (ps_if (pt_cmpR (op_eqU (hr.units)) (pv 7) pe_int (nomark _)) (pss_one (ps_ret (pe_bm PySem.F.plainAttrs_str PySem.F.slot_str_join PySem.F.type_str_join mt_join pe_str (pa_cons (pe_op op_addU (pe_ix ix_seq (pv 5) (pe_callS G_Ldraw (hr.mono (by decide)) rfl T.m_Ldraw T.k_Ldraw T.b_Ldraw (fun σ => passAt tk σ) (pa_cons (pv 0) (pa_cons pe_int pa_nil))) (fun _ _ => rfl)) (pe_slice sl_U (pv 1) (po_some (pv 2)) po_none)) pa_nil)))) pss_nil)
      (pss_cons (ps_if (pt_cmpR (op_eqU (hr.units)) (pv 7) pe_int (nomark _)) (pss_one (ps_ret (pe_bm PySem.F.plainAttrs_str PySem.F.slot_str_join PySem.F.type_str_join mt_join pe_str (pa_cons (pe_slice sl_U (pv 1) po_none (po_some (pv 2))) pa_nil)))) pss_nil)
      (pss_cons (ps_set (i := 8) sc_Lno_code.nd rfl (Or.inl rfl) (pe_op op_addU (pv 2) (pe_callS G_Ldraw (hr.mono (by decide)) rfl T.m_Ldraw T.k_Ldraw T.b_Ldraw (fun σ => passAt tk σ) (pa_cons (pv 0) (pa_cons (pv 3) pa_nil)))))
      (pss_one (ps_ret (pe_bm PySem.F.plainAttrs_str PySem.F.slot_str_join PySem.F.type_str_join mt_join pe_str (pa_cons (pe_op op_addU (pe_op op_addU (pe_slice sl_U (pv 1) po_none (po_some (pv 8))) (pe_lst (pa_cons (pe_ix ix_seq (pv 6) (pe_callS G_Ldraw (hr.mono (by decide)) rfl T.m_Ldraw T.k_Ldraw T.b_Ldraw (fun σ => passAt tk σ) (pa_cons (pv 0) (pa_cons pe_int pa_nil))) (fun _ _ => rfl)) pa_nil))) (pe_slice sl_U (pv 1) (po_some (pe_op op_addU (pv 8) pe_int)) po_none)) pa_nil))))))))))))))

theorem sc_law : FnScope nm_law ["_law_script"] (defScope st_law) := ⟨rfl, rfl, rfl, by decide +kernel, rfl, by decide +kernel, by decide +kernel⟩
theorem ok_law {P : Program} {base : Heap} {Z : Adr} (T : Top Z) (G_Lpen : FnOk P Z.w Z.K Z.mg base (L2.CX P Z.w) 1 Z.f_Lpen Z.d_Lpen ["_law_script", "_law_k"] (sp_Lpen Z)) (G_Lcode : FnOk P Z.w Z.K Z.mg base (L2.CX P Z.w) 4 Z.f_Lcode Z.d_Lcode ["_law_pen_here", "_law_most", "_law_longest", "_law_greats"] (sp_Lcode Z)) (G_Lline_exchanged : FnOk P Z.w Z.K Z.mg base (L2.CX P Z.w) 2 Z.f_Lline_exchanged Z.d_Lline_exchanged ["_law_pen_here", "_law_lines", "_law_many"] (sp_Lline_exchanged Z)) (G_Lcaught : FnOk P Z.w Z.K Z.mg base (L2.CX P Z.w) 6 Z.f_Lcaught Z.d_Lcaught ["_law_text"] (sp_Lcaught Z)) (G_Lno_code : FnOk P Z.w Z.K Z.mg base (L2.CX P Z.w) 2 Z.f_Lno_code Z.d_Lno_code ["_law_pen_here", "_law_lines", "_law_many"] (sp_Lno_code Z)) (G_read_code : FnOk P Z.w Z.K Z.mg base (L2.CX P Z.w) 5 Z.f_read_code Z.d_read_code ["text"] (sp_read_code Z)) : FnOk P Z.w Z.K Z.mg base (L2.CX P Z.w) 7 Z.f_law Z.d_law ["_law_script"] (sp_law Z) := by
  refine FnOk.mono (T.F_law.okX (k := 6) sc_law (fun vs H Q E h => ?_) (fun cdv A outer s H vs Q E hr h => ?_)) (by decide)
  · obtain ⟨a0, rfl, _⟩ := h; rfl
  · obtain ⟨a0, rfl, h⟩ := h
    have tk : Takes (cxOf (L2.CX P Z.w) P Z.w Z.K Z.mg base nm_law "law" (defScope st_law) Z.f_law cdv A outer s H E) (fun cls d _ H => E cls d H) := takes_of rfl rfl rfl rfl
    have po : PassesOwn (model P Z.w) (cxOf (L2.CX P Z.w) P Z.w Z.K Z.mg base nm_law "law" (defScope st_law) Z.f_law cdv A outer s H E).A (cxOf (L2.CX P Z.w) P Z.w Z.K Z.mg base nm_law "law" (defScope st_law) Z.f_law cdv A outer s H E).env (cxOf (L2.CX P Z.w) P Z.w Z.K Z.mg base nm_law "law" (defScope st_law) Z.f_law cdv A outer s H E).xe := passes_of rfl
    refine ⟨t_law Z (fun cls d _ H => E cls d H), ?_, rd_law T h⟩
    exact (pss_cons (ps_for po rfl (pi_range1 rfl T.n_range (pa_cons pe_int pa_nil)) (pg_name (i := 1) sc_law.nd rfl (Or.inl rfl)) (pss_cons (ps_set (i := 2) sc_law.nd rfl (Or.inl rfl) (pe_callS G_Lpen (hr.mono (by decide)) rfl T.m_Lpen T.k_Lpen T.b_Lpen (fun σ => passAt tk σ) (pa_cons (pv 0) (pa_cons (pv 1) pa_nil))))
      (pss_cons (ps_asg (pe_callS G_Lcode (hr.mono (by decide)) rfl T.m_Lcode T.k_Lcode T.b_Lcode (fun σ => passAt tk σ) (pa_cons (pv 2) (pa_cons pe_int (pa_cons pe_int (pa_cons pe_int pa_nil))))) (pg_un rfl (pgs_cons (pg_name (i := 3) sc_law.nd rfl (Or.inl rfl)) (pgs_cons (pg_name (i := 4) sc_law.nd rfl (Or.inl rfl)) pgs_nil))))
      (pss_cons (ps_for po rfl (pi_range1 rfl T.n_range (pa_cons pe_int pa_nil)) (pg_name (i := 5) sc_law.nd rfl (Or.inl rfl)) (pss_cons (ps_asg (pe_callS G_Lline_exchanged (hr.mono (by decide)) rfl T.m_Lline_exchanged T.k_Lline_exchanged T.b_Lline_exchanged (fun σ => passAt tk σ) (pa_cons (pv 2) (pa_cons (pv 4) (pa_cons (pe_ix ix_seq (pv 3) pe_int (fun _ _ => rfl)) pa_nil)))) (pg_un rfl (pgs_cons (pg_name (i := 6) sc_law.nd rfl (Or.inl rfl)) (pgs_cons (pg_name (i := 7) sc_law.nd rfl (Or.inl rfl)) pgs_nil))))
      (pss_cons (ps_if (pt_cmpR (op_neU (hr.units)) (pe_callS G_Lcaught (hr.mono (by decide)) rfl T.m_Lcaught T.k_Lcaught T.b_Lcaught (fun σ => passAt tk σ) (pa_cons (pv 6) pa_nil)) (pv 7) (nomark _)) (pss_one (ps_ret pe_bl)) pss_nil)
      (pss_one (ps_if (pt_cmpR (op_neU (hr.units)) (pe_callS G_Lcaught (hr.mono (by decide)) rfl T.m_Lcaught T.k_Lcaught T.b_Lcaught (fun σ => passAt tk σ) (pa_cons (pe_callS G_Lno_code (hr.mono (by decide)) rfl T.m_Lno_code T.k_Lno_code T.b_Lno_code (fun σ => passAt tk σ) (pa_cons (pv 2) (pa_cons (pv 4) (pa_cons (pe_ix ix_seq (pv 3) pe_int (fun _ _ => rfl)) pa_nil)))) pa_nil)) pe_str (nomark _)) (pss_one (ps_ret pe_bl)) pss_nil)))))
      (pss_one (ps_if (PW.pt (pw_or (pt_cmpR (op_neU (hr.units)) (pe_callS G_Lcaught (hr.mono (by decide)) rfl T.m_Lcaught T.k_Lcaught T.b_Lcaught (fun σ => passAt tk σ) (pa_cons (pe_op op_addU (pe_bm PySem.F.plainAttrs_str PySem.F.slot_str_join PySem.F.type_str_join mt_join pe_str (pa_cons (pv 4) pa_nil)) pe_str) pa_nil)) (pe_callB call_len' (by rfl) T.n_len (by decide +kernel) (pa_cons (pv 4) pa_nil)) (nomark _)) (pw_or1 (pt_cmpR (op_neU (hr.units)) (pe_callS G_read_code (hr.mono (by decide)) rfl T.m_read_code T.k_read_code T.b_read_code (fun σ => passAt tk σ) (pa_cons (pe_bm PySem.F.plainAttrs_str PySem.F.slot_str_join PySem.F.type_str_join mt_join pe_str (pa_cons (pv 4) pa_nil)) pa_nil)) (pv 3) (nomark _))))) (pss_one (ps_ret pe_bl)) pss_nil))))))
      (pss_cons (ps_for po rfl (pi_list (pe_lst (pa_cons pe_non (pa_cons pe_int (pa_cons pe_bl (pa_cons (pe_lst pa_nil) (pa_cons (pe_lst (pa_cons pe_str pa_nil)) (pa_cons (pe_tup (pa_cons pe_str pa_nil)) (pa_cons pe_dnewK (pa_cons pe_str pa_nil)))))))))) (pg_name (i := 8) sc_law.nd rfl (Or.inl rfl)) (pss_one (ps_if (pt_cmpR (op_neU (hr.units)) (pe_callS G_Lcaught (hr.mono (by decide)) rfl T.m_Lcaught T.k_Lcaught T.b_Lcaught (fun σ => passAt tk σ) (pa_cons (pv 8) pa_nil)) pe_int (nomark _)) (pss_one (ps_ret pe_bl)) pss_nil)))
      (pss_one (ps_ret pe_bl))))

/-! ### the end -/
def sp_goal (K : PySem.W.Frag) : Sp := fun vs H Q _ => ∃ (a : Addr) (ns : List Int), vs = [.ref a] ∧ Only H ∧ Scr K H a ns ∧ ns.length ≤ 63 ∧ ∀ H', Q (.bl true) H'
theorem goal_law (Z : Adr) {vs : List V} {H : Hp} {Q : VK} {E : XK} (h : sp_goal Z.K vs H Q E) : sp_law Z vs H Q E := by
  obtain ⟨a, ns, rfl, h⟩ := h
  exact ⟨_, rfl, a, ns, rfl, h⟩

theorem hfacts {P : Program} {w : World} {K : PySem.W.Frag} {h : Heap} {mg : Str → Option Value} {f : Addr} (KX : K.In h) (G : h.Ns mainGlobals mg) (hlaw0 : mg "law" = some (.ref f)) (cc : ∀ c ∈ hcs, _root_.Z.SaysM c.fa c.fn c.tf c.ex c.tx c.dc w h K) :
    ∃ fd : FuncData, (∀ (s : Shared) (v : Value), BindsTo s fd ⟨[v], []⟩ [("_law_script", v)]) ∧ ∀ base : Heap, K.In base → base.Ns mainGlobals mg → ∃ Z : Adr, Z.K = K ∧ FnOk P w K mg base (L2.CX P w) 7 f fd ["_law_script"] (sp_law Z) := by
  have c0 : _root_.Z.SaysM hfa0 hfn0 [] hex0 htx hdc w h K := cc hc0 (List.mem_of_getElem? (i := 0) rfl)
  have c1 : _root_.Z.SaysM hfa1 hfn1 [] hex1 [] [] w h K := cc hc1 (List.mem_of_getElem? (i := 1) rfl)
  have c2 : _root_.Z.SaysM hfa2 hfn2 [] hex2 [] [] w h K := cc hc2 (List.mem_of_getElem? (i := 2) rfl)
  obtain ⟨tk_PUSH, i_PUSH⟩ := He.int_ok KX G (c0.d.fact 0 (f := .int "PUSH" 0) rfl)
  obtain ⟨tk_GET, i_GET⟩ := He.int_ok KX G (c0.d.fact 1 (f := .int "GET" 1) rfl)
  obtain ⟨tk_SET_codes, i_SET_codes⟩ := He.int_ok KX G (c0.d.fact 2 (f := .int "SET_codes" 2) rfl)
  obtain ⟨tk_DROP, i_DROP⟩ := He.int_ok KX G (c0.d.fact 3 (f := .int "DROP" 3) rfl)
  obtain ⟨tk_JUMP, i_JUMP⟩ := He.int_ok KX G (c0.d.fact 4 (f := .int "JUMP" 4) rfl)
  obtain ⟨tk_UNLESS, i_UNLESS⟩ := He.int_ok KX G (c0.d.fact 5 (f := .int "UNLESS" 5) rfl)
  obtain ⟨tk_CALL, i_CALL⟩ := He.int_ok KX G (c0.d.fact 6 (f := .int "CALL" 6) rfl)
  obtain ⟨tk_BACK, i_BACK⟩ := He.int_ok KX G (c0.d.fact 7 (f := .int "BACK" 7) rfl)
  obtain ⟨tk_FAIL, i_FAIL⟩ := He.int_ok KX G (c0.d.fact 8 (f := .int "FAIL" 8) rfl)
  obtain ⟨tk_BREATH, i_BREATH⟩ := He.int_ok KX G (c0.d.fact 9 (f := .int "BREATH" 9) rfl)
  obtain ⟨tk_DO_codes, i_DO_codes⟩ := He.int_ok KX G (c0.d.fact 10 (f := .int "DO_codes" 10) rfl)
  obtain ⟨tk_PICK, i_PICK⟩ := He.int_ok KX G (c0.d.fact 11 (f := .int "PICK" 11) rfl)
  obtain ⟨tk_MOST_FUNCTIONS, i_MOST_FUNCTIONS⟩ := He.int_ok KX G (c0.d.fact 12 (f := .int "MOST_FUNCTIONS" 16) rfl)
  obtain ⟨tk_MOST_PARAMS, i_MOST_PARAMS⟩ := He.int_ok KX G (c0.d.fact 13 (f := .int "MOST_PARAMS" 4) rfl)
  obtain ⟨tk_MOST_BOXES, i_MOST_BOXES⟩ := He.int_ok KX G (c0.d.fact 14 (f := .int "MOST_BOXES" 12) rfl)
  obtain ⟨tk_FIRST_DONE_codes, i_FIRST_DONE_codes⟩ := He.int_ok KX G (c0.d.fact 15 (f := .int "FIRST_DONE_codes" 8) rfl)
  obtain ⟨tk_LAST_DONE, i_LAST_DONE⟩ := He.int_ok KX G (c0.d.fact 16 (f := .int "LAST_DONE" 19) rfl)
  obtain ⟨tk_MOST_PICKED, i_MOST_PICKED⟩ := He.int_ok KX G (c0.d.fact 17 (f := .int "MOST_PICKED" 12) rfl)
  obtain ⟨tk_SET_kinds, i_SET_kinds⟩ := He.int_ok KX G (c0.d.fact 18 (f := .int "SET_kinds" 2) rfl)
  obtain ⟨tk_NEW, i_NEW⟩ := He.int_ok KX G (c0.d.fact 19 (f := .int "NEW" 19) rfl)
  obtain ⟨tk_FIGURES, i_FIGURES⟩ := He.str_ok KX G (c0.d.fact 20 (f := .str "FIGURES" "0123456789") rfl)
  obtain ⟨tk_MOST_FIGURES, i_MOST_FIGURES⟩ := He.int_ok KX G (c0.d.fact 21 (f := .int "MOST_FIGURES" 60) rfl)
  obtain ⟨tk_DO_codetexts, i_DO_codetexts⟩ := He.int_ok KX G (c0.d.fact 22 (f := .int "DO_codetexts" 10) rfl)
  obtain ⟨tk_FIRST_DONE_codetexts, i_FIRST_DONE_codetexts⟩ := He.int_ok KX G (c0.d.fact 23 (f := .int "FIRST_DONE_codetexts" 8) rfl)
  obtain ⟨tk_MOST_PUSHED, i_MOST_PUSHED⟩ := He.int_ok KX G (c0.d.fact 24 (f := .int "MOST_PUSHED" 100) rfl)
  obtain ⟨d_NoText_init, F_NoText_init⟩ := c0.func 0 (p := ("NoText", some "__init__")) (st := st_NoText_init) rfl
  obtain ⟨d_is_whole, F_is_whole⟩ := c0.func 1 (p := ("is_whole", none)) (st := st_is_whole) rfl
  obtain ⟨d_are_wholes, F_are_wholes⟩ := c0.func 2 (p := ("are_wholes", none)) (st := st_are_wholes) rfl
  obtain ⟨d_fits_op, F_fits_op⟩ := c0.func 3 (p := ("fits_op", none)) (st := st_fits_op) rfl
  obtain ⟨d_fits_head, F_fits_head⟩ := c0.func 4 (p := ("fits_head", none)) (st := st_fits_head) rfl
  obtain ⟨d_make_code, F_make_code⟩ := c0.func 5 (p := ("make_code", none)) (st := st_make_code) rfl
  obtain ⟨d_code_of, F_code_of⟩ := c0.func 6 (p := ("code_of", none)) (st := st_code_of) rfl
  obtain ⟨d_word_of, F_word_of⟩ := c0.func 7 (p := ("word_of", none)) (st := st_word_of) rfl
  obtain ⟨d_kind_of, F_kind_of⟩ := c0.func 8 (p := ("kind_of", none)) (st := st_kind_of) rfl
  obtain ⟨d_is_of, F_is_of⟩ := c0.func 9 (p := ("is_of", none)) (st := st_is_of) rfl
  obtain ⟨d_is_number_of, F_is_number_of⟩ := c0.func 10 (p := ("is_number_of", none)) (st := st_is_number_of) rfl
  obtain ⟨d_is_number_word, F_is_number_word⟩ := c0.func 11 (p := ("is_number_word", none)) (st := st_is_number_word) rfl
  obtain ⟨d_row_in, F_row_in⟩ := c0.func 12 (p := ("row_in", none)) (st := st_row_in) rfl
  obtain ⟨d_head_in, F_head_in⟩ := c0.func 13 (p := ("head_in", none)) (st := st_head_in) rfl
  obtain ⟨d_read_code, F_read_code⟩ := c0.func 14 (p := ("read_code", none)) (st := st_read_code) rfl
  obtain ⟨d_Lpen, F_Lpen⟩ := c0.func 15 (p := ("_law_pen", none)) (st := st_Lpen) rfl
  obtain ⟨d_Ldraw, F_Ldraw⟩ := c0.func 16 (p := ("_law_draw", none)) (st := st_Ldraw) rfl
  obtain ⟨d_Lnumber, F_Lnumber⟩ := c0.func 17 (p := ("_law_number", none)) (st := st_Lnumber) rfl
  obtain ⟨d_Lrow, F_Lrow⟩ := c0.func 18 (p := ("_law_row", none)) (st := st_Lrow) rfl
  obtain ⟨d_Lcode, F_Lcode⟩ := c0.func 19 (p := ("_law_code", none)) (st := st_Lcode) rfl
  obtain ⟨d_Lcaught, F_Lcaught⟩ := c0.func 20 (p := ("_law_caught", none)) (st := st_Lcaught) rfl
  obtain ⟨d_Lbad_lines, F_Lbad_lines⟩ := c0.func 21 (p := ("_law_bad_lines", none)) (st := st_Lbad_lines) rfl
  obtain ⟨d_Lline_exchanged, F_Lline_exchanged⟩ := c0.func 22 (p := ("_law_line_exchanged", none)) (st := st_Lline_exchanged) rfl
  obtain ⟨d_Lno_code, F_Lno_code⟩ := c0.func 23 (p := ("_law_no_code", none)) (st := st_Lno_code) rfl
  obtain ⟨d_law, F_law⟩ := c1.func 0 (p := ("law", none)) (st := st_law) rfl
  let Z : Adr := {
      K := K
      mg := mg
      t_PUSH := tk_PUSH
      t_GET := tk_GET
      t_SET_codes := tk_SET_codes
      t_DROP := tk_DROP
      t_JUMP := tk_JUMP
      t_UNLESS := tk_UNLESS
      t_CALL := tk_CALL
      t_BACK := tk_BACK
      t_FAIL := tk_FAIL
      t_BREATH := tk_BREATH
      t_DO_codes := tk_DO_codes
      t_PICK := tk_PICK
      t_MOST_FUNCTIONS := tk_MOST_FUNCTIONS
      t_MOST_PARAMS := tk_MOST_PARAMS
      t_MOST_BOXES := tk_MOST_BOXES
      t_FIRST_DONE_codes := tk_FIRST_DONE_codes
      t_LAST_DONE := tk_LAST_DONE
      t_MOST_PICKED := tk_MOST_PICKED
      t_SET_kinds := tk_SET_kinds
      t_NEW := tk_NEW
      t_FIGURES := tk_FIGURES
      t_MOST_FIGURES := tk_MOST_FIGURES
      t_DO_codetexts := tk_DO_codetexts
      t_FIRST_DONE_codetexts := tk_FIRST_DONE_codetexts
      t_MOST_PUSHED := tk_MOST_PUSHED
      a_EARLY := He.ga K "EARLY"
      a_LATE := He.ga K "LATE"
      w := w
      a_NUMBERED := He.ga K "NUMBERED"
      a_ALONE := He.ga K "ALONE"
      f_NoText_init := He.fAd K ("NoText", some "__init__")
      d_NoText_init := d_NoText_init
      f_is_whole := He.fAd K ("is_whole", none)
      d_is_whole := d_is_whole
      f_are_wholes := He.fAd K ("are_wholes", none)
      d_are_wholes := d_are_wholes
      f_fits_op := He.fAd K ("fits_op", none)
      d_fits_op := d_fits_op
      f_fits_head := He.fAd K ("fits_head", none)
      d_fits_head := d_fits_head
      f_make_code := He.fAd K ("make_code", none)
      d_make_code := d_make_code
      f_code_of := He.fAd K ("code_of", none)
      d_code_of := d_code_of
      f_word_of := He.fAd K ("word_of", none)
      d_word_of := d_word_of
      f_kind_of := He.fAd K ("kind_of", none)
      d_kind_of := d_kind_of
      f_is_of := He.fAd K ("is_of", none)
      d_is_of := d_is_of
      f_is_number_of := He.fAd K ("is_number_of", none)
      d_is_number_of := d_is_number_of
      f_is_number_word := He.fAd K ("is_number_word", none)
      d_is_number_word := d_is_number_word
      f_row_in := He.fAd K ("row_in", none)
      d_row_in := d_row_in
      f_head_in := He.fAd K ("head_in", none)
      d_head_in := d_head_in
      f_read_code := He.fAd K ("read_code", none)
      d_read_code := d_read_code
      f_Lpen := He.fAd K ("_law_pen", none)
      d_Lpen := d_Lpen
      f_Ldraw := He.fAd K ("_law_draw", none)
      d_Ldraw := d_Ldraw
      f_Lnumber := He.fAd K ("_law_number", none)
      d_Lnumber := d_Lnumber
      f_Lrow := He.fAd K ("_law_row", none)
      d_Lrow := d_Lrow
      f_Lcode := He.fAd K ("_law_code", none)
      d_Lcode := d_Lcode
      f_Lcaught := He.fAd K ("_law_caught", none)
      d_Lcaught := d_Lcaught
      f_Lbad_lines := He.fAd K ("_law_bad_lines", none)
      d_Lbad_lines := d_Lbad_lines
      f_Lline_exchanged := He.fAd K ("_law_line_exchanged", none)
      d_Lline_exchanged := d_Lline_exchanged
      f_Lno_code := He.fAd K ("_law_no_code", none)
      d_Lno_code := d_Lno_code
      f_law := He.fAd K ("law", none)
      d_law := d_law
      c_ChainError := (He.ga K "ChainError")
      c_NoSheet := (He.ga K "NoSheet")
      c_NoText := (He.ga K "NoText")
      c_NoCode := (He.ga K "NoCode")
      c_NoRow := (He.ga K "NoRow")
      c_NoName := (He.ga K "NoName") }
  have T : Top Z := {
      g_PUSH := i_PUSH
      g_GET := i_GET
      g_SET_codes := i_SET_codes
      g_DROP := i_DROP
      g_JUMP := i_JUMP
      g_UNLESS := i_UNLESS
      g_CALL := i_CALL
      g_BACK := i_BACK
      g_FAIL := i_FAIL
      g_BREATH := i_BREATH
      g_DO_codes := i_DO_codes
      g_PICK := i_PICK
      g_MOST_FUNCTIONS := i_MOST_FUNCTIONS
      g_MOST_PARAMS := i_MOST_PARAMS
      g_MOST_BOXES := i_MOST_BOXES
      g_FIRST_DONE_codes := i_FIRST_DONE_codes
      g_LAST_DONE := i_LAST_DONE
      g_MOST_PICKED := i_MOST_PICKED
      g_SET_kinds := i_SET_kinds
      g_NEW := i_NEW
      g_FIGURES := i_FIGURES
      g_MOST_FIGURES := i_MOST_FIGURES
      g_DO_codetexts := i_DO_codetexts
      g_FIRST_DONE_codetexts := i_FIRST_DONE_codetexts
      g_MOST_PUSHED := i_MOST_PUSHED
      g_EARLY := He.glo_ok KX G (c0.d.fact 25 (f := .glo "EARLY") rfl)
      s_EARLY := fun H => He.tupB_ok (c0.bool 0 rfl) H
      g_LATE := He.glo_ok KX G (c0.d.fact 26 (f := .glo "LATE") rfl)
      s_LATE := fun H => He.tupB_ok (c0.bool 1 rfl) H
      g_NUMBERED := He.glo_ok KX G (c0.d.fact 27 (f := .glo "NUMBERED") rfl)
      D_NUMBERED := dctK_of (c0.dct 0 (x := "NUMBERED") (ks := ["push", "get", "set", "jump", "unless", "call", "pick"]) rfl) rfl (c0.bool 2 rfl)
      g_ALONE := He.glo_ok KX G (c0.d.fact 28 (f := .glo "ALONE") rfl)
      D_ALONE := dctK_of (c0.dct 1 (x := "ALONE") (ks := ["drop", "back", "fail", "breath"]) rfl) rfl (c0.bool 3 rfl)
      n_ValueError := He.free_ok KX G (c0.d.fact 29 (f := .free "ValueError") rfl)
      n_all := He.free_ok KX G (c0.d.fact 30 (f := .free "all") rfl)
      n_bool := He.free_ok KX G (c0.d.fact 31 (f := .free "bool") rfl)
      n_enumerate := He.free_ok KX G (c0.d.fact 32 (f := .free "enumerate") rfl)
      n_int := He.free_ok KX G (c0.d.fact 33 (f := .free "int") rfl)
      n_isinstance := He.free_ok KX G (c0.d.fact 34 (f := .free "isinstance") rfl)
      n_len := He.free_ok KX G (c0.d.fact 35 (f := .free "len") rfl)
      n_list := He.free_ok KX G (c0.d.fact 36 (f := .free "list") rfl)
      n_range := He.free_ok KX G (c0.d.fact 37 (f := .free "range") rfl)
      n_str := He.free_ok KX G (c0.d.fact 38 (f := .free "str") rfl)
      n_tuple := He.free_ok KX G (c0.d.fact 39 (f := .free "tuple") rfl)
      F_NoText_init := F_NoText_init
      b_NoText_init := F_NoText_init.binds (ps := ["self", "at"]) fun _ _ _ _ _ _ us hl => match us, hl with | [_, _], _ => rfl
      F_is_whole := F_is_whole
      b_is_whole := F_is_whole.binds (ps := ["thing"]) fun _ _ _ _ _ _ us hl => match us, hl with | [_], _ => rfl
      m_is_whole := He.glo_ok KX G (c0.d.fact 40 (f := .glo "is_whole") rfl)
      F_are_wholes := F_are_wholes
      b_are_wholes := F_are_wholes.binds (ps := ["things", "many"]) fun _ _ _ _ _ _ us hl => match us, hl with | [_, _], _ => rfl
      m_are_wholes := He.glo_ok KX G (c0.d.fact 41 (f := .glo "are_wholes") rfl)
      F_fits_op := F_fits_op
      b_fits_op := F_fits_op.binds (ps := ["op", "number", "functions", "rows"]) fun _ _ _ _ _ _ us hl => match us, hl with | [_, _, _, _], _ => rfl
      m_fits_op := He.glo_ok KX G (c0.d.fact 42 (f := .glo "fits_op") rfl)
      F_fits_head := F_fits_head
      b_fits_head := F_fits_head.binds (ps := ["head", "at", "rows"]) fun _ _ _ _ _ _ us hl => match us, hl with | [_, _, _], _ => rfl
      m_fits_head := He.glo_ok KX G (c0.d.fact 43 (f := .glo "fits_head") rfl)
      F_make_code := F_make_code
      b_make_code := F_make_code.binds (ps := ["heads", "rows"]) fun _ _ _ _ _ _ us hl => match us, hl with | [_, _], _ => rfl
      m_make_code := He.glo_ok KX G (c0.d.fact 44 (f := .glo "make_code") rfl)
      F_code_of := F_code_of
      b_code_of := F_code_of.binds (ps := ["heads", "rows"]) fun _ _ _ _ _ _ us hl => match us, hl with | [_, _], _ => rfl
      m_code_of := He.glo_ok KX G (c0.d.fact 45 (f := .glo "code_of") rfl)
      F_word_of := F_word_of
      b_word_of := F_word_of.binds (ps := ["kind"]) fun _ _ _ _ _ _ us hl => match us, hl with | [_], _ => rfl
      m_word_of := He.glo_ok KX G (c0.d.fact 46 (f := .glo "word_of") rfl)
      F_kind_of := F_kind_of
      b_kind_of := F_kind_of.binds (ps := ["word"]) fun _ _ _ _ _ _ us hl => match us, hl with | [_], _ => rfl
      m_kind_of := He.glo_ok KX G (c0.d.fact 47 (f := .glo "kind_of") rfl)
      F_is_of := F_is_of
      b_is_of := F_is_of.binds (ps := ["word", "signs", "most"]) fun _ _ _ _ _ _ us hl => match us, hl with | [_, _, _], _ => rfl
      m_is_of := He.glo_ok KX G (c0.d.fact 48 (f := .glo "is_of") rfl)
      F_is_number_of := F_is_number_of
      b_is_number_of := F_is_number_of.binds (ps := ["word", "most"]) fun _ _ _ _ _ _ us hl => match us, hl with | [_, _], _ => rfl
      m_is_number_of := He.glo_ok KX G (c0.d.fact 49 (f := .glo "is_number_of") rfl)
      F_is_number_word := F_is_number_word
      b_is_number_word := F_is_number_word.binds (ps := ["word"]) fun _ _ _ _ _ _ us hl => match us, hl with | [_], _ => rfl
      m_is_number_word := He.glo_ok KX G (c0.d.fact 50 (f := .glo "is_number_word") rfl)
      F_row_in := F_row_in
      b_row_in := F_row_in.binds (ps := ["words"]) fun _ _ _ _ _ _ us hl => match us, hl with | [_], _ => rfl
      m_row_in := He.glo_ok KX G (c0.d.fact 51 (f := .glo "row_in") rfl)
      F_head_in := F_head_in
      b_head_in := F_head_in.binds (ps := ["words"]) fun _ _ _ _ _ _ us hl => match us, hl with | [_], _ => rfl
      m_head_in := He.glo_ok KX G (c0.d.fact 52 (f := .glo "head_in") rfl)
      F_read_code := F_read_code
      b_read_code := F_read_code.binds (ps := ["text"]) fun _ _ _ _ _ _ us hl => match us, hl with | [_], _ => rfl
      m_read_code := He.glo_ok KX G (c0.d.fact 53 (f := .glo "read_code") rfl)
      F_Lpen := F_Lpen
      b_Lpen := F_Lpen.binds (ps := ["_law_script", "_law_k"]) fun _ _ _ _ _ _ us hl => match us, hl with | [_, _], _ => rfl
      m_Lpen := He.glo_ok KX G (c0.d.fact 54 (f := .glo "_law_pen") rfl)
      F_Ldraw := F_Ldraw
      b_Ldraw := F_Ldraw.binds (ps := ["_law_pen_here", "_law_many"]) fun _ _ _ _ _ _ us hl => match us, hl with | [_, _], _ => rfl
      m_Ldraw := He.glo_ok KX G (c0.d.fact 55 (f := .glo "_law_draw") rfl)
      F_Lnumber := F_Lnumber
      b_Lnumber := F_Lnumber.binds (ps := ["_law_pen_here", "_law_greats"]) fun _ _ _ _ _ _ us hl => match us, hl with | [_, _], _ => rfl
      m_Lnumber := He.glo_ok KX G (c0.d.fact 56 (f := .glo "_law_number") rfl)
      F_Lrow := F_Lrow
      b_Lrow := F_Lrow.binds (ps := ["_law_pen_here", "_law_many", "_law_rows", "_law_greats"]) fun _ _ _ _ _ _ us hl => match us, hl with | [_, _, _, _], _ => rfl
      m_Lrow := He.glo_ok KX G (c0.d.fact 57 (f := .glo "_law_row") rfl)
      F_Lcode := F_Lcode
      b_Lcode := F_Lcode.binds (ps := ["_law_pen_here", "_law_most", "_law_longest", "_law_greats"]) fun _ _ _ _ _ _ us hl => match us, hl with | [_, _, _, _], _ => rfl
      m_Lcode := He.glo_ok KX G (c0.d.fact 58 (f := .glo "_law_code") rfl)
      F_Lcaught := F_Lcaught
      b_Lcaught := F_Lcaught.binds (ps := ["_law_text"]) fun _ _ _ _ _ _ us hl => match us, hl with | [_], _ => rfl
      m_Lcaught := He.glo_ok KX G (c0.d.fact 59 (f := .glo "_law_caught") rfl)
      F_Lbad_lines := F_Lbad_lines
      b_Lbad_lines := F_Lbad_lines.binds (ps := ["_law_is_head"]) fun _ _ _ _ _ _ us hl => match us, hl with | [_], _ => rfl
      m_Lbad_lines := He.glo_ok KX G (c1.d.fact 0 (f := .glo "_law_bad_lines") rfl)
      F_Lline_exchanged := F_Lline_exchanged
      b_Lline_exchanged := F_Lline_exchanged.binds (ps := ["_law_pen_here", "_law_lines", "_law_many"]) fun _ _ _ _ _ _ us hl => match us, hl with | [_, _, _], _ => rfl
      m_Lline_exchanged := He.glo_ok KX G (c1.d.fact 1 (f := .glo "_law_line_exchanged") rfl)
      F_Lno_code := F_Lno_code
      b_Lno_code := F_Lno_code.binds (ps := ["_law_pen_here", "_law_lines", "_law_many"]) fun _ _ _ _ _ _ us hl => match us, hl with | [_, _, _], _ => rfl
      m_Lno_code := He.glo_ok KX G (c1.d.fact 2 (f := .glo "_law_no_code") rfl)
      F_law := F_law
      b_law := F_law.binds (ps := ["_law_script"]) fun _ _ _ _ _ _ us hl => match us, hl with | [_], _ => rfl
      m_law := He.glo_ok KX G (c1.d.fact 3 (f := .glo "law") rfl)
      g_ChainError := He.glo_ok KX G (c1.d.fact 4 (f := .glo "ChainError") rfl)
      ri_ChainError := (c0.bool 4 rfl)
      rs_ChainError := (c0.dec 5 rfl)
      rv_ChainError := _root_.Z.veiB_ok (c0.bool 6 rfl)
      g_NoSheet := He.glo_ok KX G (c1.d.fact 5 (f := .glo "NoSheet") rfl)
      g_NoText := He.glo_ok KX G (c1.d.fact 6 (f := .glo "NoText") rfl)
      na_NoText_at := (c0.dec 7 rfl)
      ox_NoText := ⟨_root_.Z.oexB_ok (c0.bool 8 rfl), (c0.dec 9 rfl), (c0.dec 10 rfl), (c0.dec 11 rfl), (c0.bool 12 rfl)⟩
      xf_NoText := xfB_ok (c0.bool 13 rfl)
      oi_NoText := (c1.dec 0 rfl)
      ot_NoText := (c1.dec 1 rfl)
      g_NoCode := He.glo_ok KX G (c1.d.fact 7 (f := .glo "NoCode") rfl)
      oq_NoCode := (He.exc_ok (c1.d.fact 8 (f := .exc "NoCode") rfl)).1
      ok_NoCode := (He.exc_ok (c1.d.fact 8 (f := .exc "NoCode") rfl)).2.1
      ob_NoCode := (He.exc_ok (c1.d.fact 8 (f := .exc "NoCode") rfl)).2.2.1
      oy_NoCode := (He.exc_ok (c1.d.fact 8 (f := .exc "NoCode") rfl)).2.2.2
      g_NoRow := He.glo_ok KX G (c1.d.fact 9 (f := .glo "NoRow") rfl)
      g_NoName := He.glo_ok KX G (c1.d.fact 10 (f := .glo "NoName") rfl)
      ex_NoText_ChainError := He.exm_ok (c1.d.fact 11 (f := .exm "NoText" "ChainError" true) rfl)
      ex_NoCode_ChainError := He.exm_ok (c1.d.fact 12 (f := .exm "NoCode" "ChainError" true) rfl)
      kx_NoText := ⟨(c1.dec 2 rfl), (c1.dec 3 rfl), (c0.dec 10 rfl), (c1.bool 4 rfl), (c1.dec 5 rfl), (c1.dec 6 rfl), (c1.dec 7 rfl), (c1.dec 8 rfl)⟩
      kv_NoText := (c1.dec 9 rfl)
      ki_NoText_NoCode := (c1.dec 10 rfl)
      ki_NoText_NoName := (c1.dec 11 rfl)
      ki_NoText_NoRow := (c1.dec 12 rfl)
      ki_NoText_NoSheet := (c1.dec 13 rfl)
      ki_NoText_NoText := (c2.dec 0 rfl)
      kx_NoCode := ⟨(c2.dec 1 rfl), (c2.dec 2 rfl), (c2.dec 3 rfl), (c2.bool 4 rfl), (c2.dec 5 rfl), (c1.dec 6 rfl), (c1.dec 7 rfl), (c2.dec 6 rfl)⟩
      kv_NoCode := (c2.dec 7 rfl)
      ki_NoCode_NoCode := (c2.dec 8 rfl)
      ki_NoCode_NoName := (c2.dec 9 rfl)
      ki_NoCode_NoRow := (c2.dec 10 rfl)
      ki_NoCode_NoSheet := (c2.dec 11 rfl)
      ki_NoCode_NoText := (c2.dec 12 rfl) }
  have e := hlaw0.symm.trans T.m_law
  cases e
  obtain ⟨e1, e2⟩ : (∃ bb : Binds K d_law ["_law_script"] [], True) ∧ True := ⟨⟨T.b_law, trivial⟩, trivial⟩
  refine ⟨d_law, fun s v => ?_, fun base _ _ => ⟨Z, rfl, ?_⟩⟩
  · obtain ⟨oc, od, kV, doc, pm, an, cdv, ct, osl, z1, z2, z3⟩ := F_law.ex
    subst z1
    exact .of_eq rfl
  have G_Lpen := ok_Lpen (P := P)  (base := base) T 
  have G_Ldraw := ok_Ldraw (P := P)  (base := base) T 
  have G_Lnumber := ok_Lnumber (P := P)  (base := base) T G_Ldraw
  have G_Lrow := ok_Lrow (P := P)  (base := base) T G_Ldraw G_Lnumber
  have G_Lcode := ok_Lcode (P := P)  (base := base) T G_Ldraw G_Lrow
  have G_Lbad_lines := ok_Lbad_lines (P := P)  (base := base) T 
  have G_Lline_exchanged := ok_Lline_exchanged (P := P)  (base := base) T G_Ldraw G_Lbad_lines
  have G_NoText_init := ok_NoText_init (P := P)  (base := base) T 
  have G_is_of := ok_is_of (P := P)  (base := base) T 
  have G_is_number_of := ok_is_number_of (P := P)  (base := base) T G_is_of
  have G_is_number_word := ok_is_number_word (P := P)  (base := base) T G_is_number_of
  have G_head_in := ok_head_in (P := P)  (base := base) T G_is_number_word
  have G_word_of := ok_word_of (P := P)  (base := base) T 
  have G_kind_of := ok_kind_of (P := P)  (base := base) T G_word_of
  have G_row_in := ok_row_in (P := P)  (base := base) T G_is_number_of G_kind_of
  have G_is_whole := ok_is_whole (P := P)  (base := base) T 
  have G_are_wholes := ok_are_wholes (P := P)  (base := base) T G_is_whole
  have G_fits_head := ok_fits_head (P := P)  (base := base) T 
  have G_fits_op := ok_fits_op (P := P)  (base := base) T 
  have G_make_code := ok_make_code (P := P)  (base := base) T G_fits_head G_fits_op
  have G_code_of := ok_code_of (P := P)  (base := base) T G_are_wholes G_make_code
  have G_read_code := ok_read_code (P := P)  (base := base) T G_NoText_init G_head_in G_row_in G_code_of
  have G_Lcaught := ok_Lcaught (P := P)  (base := base) T G_read_code
  have G_Lno_code := ok_Lno_code (P := P)  (base := base) T G_Ldraw
  have G_law := ok_law (P := P)  (base := base) T G_Lpen G_Lcode G_Lline_exchanged G_Lcaught G_Lno_code G_read_code
  exact G_law
end My
namespace My
open PySem Z
open L2 hiding rLen Same Same.refl Same.trans Same.free Same.seq Same.made

theorem all_mk : AllT := by
  intro w mg f h Y G hl
  obtain ⟨K, KX, cc⟩ := Y
  letI iq : TQ := ⟨fun _ => ""⟩
  obtain ⟨fd, hb, hF⟩ := hfacts (P := (PySem.Challenge.rw_ownchain_k13_no_codes_texts).prog) (w := w) KX G hl cc
  refine ⟨K, fd, sp_goal K, KX, hb, fun H a ns hn hO hS => ⟨a, ns, rfl, hO, _root_.Z.Scr.of hO hS, hn, fun _ => rfl⟩, fun base b1 b2 => ?_⟩
  obtain ⟨Z, hZ, gg⟩ := hF base b1 b2
  exact gg.imp fun vs H Q E q => goal_law Z (hZ ▸ q)
end My
theorem PySem.Challenge.cw_ownchain_k13_no_codes_texts_holds : PySem.Challenge.rw_ownchain_k13_no_codes_texts.Holds := by
  exact My.head_ownchain_k13_no_codes_texts My.all_mk
