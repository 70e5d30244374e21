import PyProof.Rows.All
import Wide.All
import OpenK.AllK
import Wide.FinOn
import HandS.ForMost
import HandS.ForExc
import HandS.IsInst
import HandS.Wide
import HandS.TryOnly
import HandS.Codes
import HandS.Style
import HandS.ExcInit
import HandS.ExcField
import HandS.TupAny
import HandS.Conv
import HandS.Lambda
import KE.KStateDown
import HandS.Head0
import HandS.Head1
import HandS.Head2
import HandS.HeadEnd
import HandS.HeadHook1
import HandS.HeadHook2
import HandS.HeadHook3
import HandS.HeadHook4
import HandS.HeadWalk
import HandS.Nested
import HandS.NestedK
import HandS.EndTab
import HandS.Replace
import HandS.ReplaceLit
import HandS.ReplaceDef
import PyProof.FitsReplace
import PyProof.StrLawsChain
import PyProof.StrCalls6
import KE.IntTextLaws
import HandS.Text
import HandS.StrMore
import HandS.ExcIs
import KE.KExcIs
import PyProof.SumAny
import PySem.Challenge.RW_ownchain_k11_words_that_cannot_stand
set_option Elab.async false
set_option linter.all false
set_option maxRecDepth 100000
set_option maxHeartbeats 8000000
set_option Elab.async false
set_option linter.all false
set_option maxRecDepth 100000
set_option maxHeartbeats 4000000
/-! ### the head: what the top leaves, looked at by one hook -/
namespace Z
open PySem PySem.Spec PyProof.Rows L2
def strOf : Expr → Str
  | .Constant (.str s) _ _ => s
  | _ => ""
/-- the texts of a written tuple -/
def strsOf : Stmt → List Str
  | .Assign _ (.Tuple es _ _) _ => es.map strOf
  | _ => []
/-- the part of the heap that is told: what the module's names reach, and the statics -/
def kOf (n : Nat) (g : Addr → Option Obj) : PySem.W.Frag := He.frT g (cStatics :: He.asD g n)
/-- the texts of a tuple, looked at as they are: no sign is gone through -/
def txOf : Value → Option Str
  | .str s _ => some s
  | _ => none
theorem relAll_str (K : PySem.W.Frag) : ∀ (ss : List Str) (vs : List Value), vs.map txOf = ss.map some → He.relAll ((ss.map He.Dv.str).map (He.Dv.v K)) vs = true
  | [], [], _ => rfl
  | [], v :: r, h => by cases h
  | s :: r, [], h => by cases h
  | s :: r, v :: vs, h => by
    simp only [List.map_cons, List.cons.injEq] at h
    have ih := relAll_str K r vs h.2
    cases v with
    | str z t =>
      have e : z = s := Option.some.inj h.1
      subst e
      simp only [List.map_cons, He.Dv.v]
      refine Bool.and_eq_true_iff.mpr ⟨?_, ih⟩
      show He.relB (.str z) (.str z t) = true
      simp [He.relB]
    | _ => exact absurd h.1 (by unfold txOf; simp)
def tupV (K : PySem.W.Frag) (x : Str) : Option (List (Option Str)) := match List.lookup (He.ga K x) K with
  | some ⟨.type c, _, .seq its _, _⟩ => if c = "tuple" ∧ its.size ≤ sizeLine then some (its.toList.map txOf) else none
  | _ => none
theorem tupV_ok {K : PySem.W.Frag} {x : Str} {ss : List Str} (h : tupV K x = some (ss.map some)) : He.tupB K x (ss.map He.Dv.str) = true := by
  unfold tupV at h
  unfold He.tupB
  split at h
  · rename_i c _ its _ _ e
    split at h
    · rename_i hc
      rw [e]
      have hi := Option.some.inj h
      simp only [relAll_str K ss _ hi, hc.1, hc.2, decide_true, Bool.and_true]
    · cases h
  · cases h
def obsM (n : Nat) (fa : List He.Fa) (fn : List He.DefD) (tf : List He.Defn) (ex : PySem.W.Frag → List Bool) (g : Addr → Option Obj) : He.AlD × Bool := (He.obsD fa fn (kOf n g), (ex (kOf n g)).all id && He.tabsB g tf (kOf n g))
structure SaysM (fa : List He.Fa) (fn : List He.DefD) (tf : List He.Defn) (ex : PySem.W.Frag → List Bool) (tx dc : List (Str × List Str)) (w : World) (h : Heap) (K : PySem.W.Frag) : Prop where
  d : He.SaysD fa fn K
  more : (ex K).all id = true
  hd : ∀ p ∈ tf, PySem.W.codeHdIn K (He.cT K p).1 (He.cT K p).2 = true
  out : ∀ p ∈ tf, K.lookup (He.cT K p).2 = none
  empty : ∀ p ∈ tf, h.get? (He.cT K p).2 = some { cls := .none, data := .fields #[] }
  txs : (tx.map fun p => tupV K p.1) = tx.map fun p => some (p.2.map some)
  dcs : (dc.map fun p => He.dicW K (He.ga K p.1)) = dc.map fun p => some (He.keysIn w.params p.2)
theorem saysM_of {n : Nat} {fa : List He.Fa} {fn : List He.DefD} {tf : List He.Defn} {ex : PySem.W.Frag → List Bool} {tx dc : List (Str × List Str)} {w : World} {h : Heap} (e : obsM n fa fn tf ex h.get? = (He.valD fn, true)) (et : (tx.map fun p => tupV (kOf n h.get?) p.1) = tx.map fun p => some (p.2.map some)) (ed : (dc.map fun p => He.dicW (kOf n h.get?) (He.ga (kOf n h.get?) p.1)) = dc.map fun p => some (He.keysIn w.params p.2)) : SaysM fa fn tf ex tx dc w h (kOf n h.get?) := by
  have a : He.obsD fa fn (kOf n h.get?) = He.valD fn := congrArg Prod.fst e
  have b : ((ex (kOf n h.get?)).all id && He.tabsB h.get? tf (kOf n h.get?)) = true := congrArg Prod.snd e
  obtain ⟨b1, b2⟩ := Bool.and_eq_true_iff.mp b
  have each : ∀ p ∈ tf, PySem.W.codeHdIn (kOf n h.get?) (He.cT (kOf n h.get?) p).1 (He.cT (kOf n h.get?) p).2 = true ∧ ∃ o, h.get? (He.cT (kOf n h.get?) p).2 = some o ∧ He.emptyTab o = true := by
    intro p hp
    obtain ⟨c1, c2⟩ := Bool.and_eq_true_iff.mp (List.all_eq_true.mp b2 p hp)
    cases q : h.get? (He.cT (kOf n h.get?) p).2 with
    | none => rw [q] at c2; exact absurd c2 (by simp)
    | some o => rw [q] at c2; exact ⟨c1, o, rfl, c2⟩
  exact ⟨a, b1, fun p hp => (each p hp).1, fun p hp => (each p hp).2.elim fun o z => He.frT_none z.1 z.2, fun p hp => (each p hp).2.elim fun o z => by rw [z.1, He.emptyTab_eq z.2], et, ed⟩
/-- the facts, in parts that are looked at one by one -/
structure Chk where
  fa : List He.Fa
  fn : List He.DefD
  tf : List He.Defn
  ex : PySem.W.Frag → List Bool
  tx : List (Str × List Str)
  dc : List (Str × List Str)
abbrev ObsT : Type := (He.AlD × Bool) × List (Option (List (Option Str))) × List (Option (List (Option (Str × Int))))
def Chk.obs (c : Chk) (n : Nat) (g : Addr → Option Obj) : ObsT := (obsM n c.fa c.fn c.tf c.ex g, c.tx.map fun p => tupV (kOf n g) p.1, c.dc.map fun p => He.dicW (kOf n g) (He.ga (kOf n g) p.1))
def Chk.val (c : Chk) (w : World) : ObsT := ((He.valD c.fn, true), c.tx.map fun p => some (p.2.map some), c.dc.map fun p => some (He.keysIn w.params p.2))
def hookM (n : Nat) (cs : List Chk) : PySem.W.Hook where
  α := List ObsT
  obs := fun s => cs.map fun c => c.obs n s.heap.get?
  val := fun w => cs.map fun c => c.val w
  says := fun w h => ∃ K : PySem.W.Frag, K.In h ∧ ∀ c ∈ cs, SaysM c.fa c.fn c.tf c.ex c.tx c.dc w h K
  of := fun _ s e => ⟨kOf n s.heap.get?, He.frT_in, fun c hc => by
    obtain ⟨i, hi, rfl⟩ := List.getElem_of_mem hc
    have z := congrArg (fun l : List ObsT => l[i]?) e
    simp only [List.getElem?_map, List.getElem?_eq_getElem hi, Option.map_some] at z
    have z := Option.some.inj z
    exact saysM_of (congrArg Prod.fst z) (congrArg (fun t : ObsT => t.2.1) z) (congrArg (fun t : ObsT => t.2.2) z)⟩
  keeps := fun _ _ _ ⟨K, hK, c⟩ k => ⟨K, PySem.W.Frag.In.keeps hK k, fun x hx => ⟨(c x hx).d, (c x hx).more, (c x hx).hd, (c x hx).out, fun p hp => k _ _ ((c x hx).empty p hp), (c x hx).txs, (c x hx).dcs⟩⟩
theorem obsM_eq {n : Nat} {cs : List Chk} {g : Addr → Option Obj} {s : Shared} (h : ∀ a, g a = s.heap.get? a) : (cs.map fun c => c.obs n g) = (hookM n cs).obs s := by
  have : g = s.heap.get? := funext h
  subst this
  rfl
theorem runs_of {σ B C γ : Type} {E : Option σ} {a : σ → Bool} {b : σ → B} {good : B} {cs : List C} {o : C → σ → γ} {v : C → γ} (h0 : E.map (fun s => (a s, b s)) = some (true, good)) (h : ∀ c ∈ cs, E.map (o c) = some (v c)) : E.map (fun s => (a s, b s, cs.map fun c => o c s)) = some (true, good, cs.map v) := by
  cases E with
  | none => cases h0
  | some s =>
    have e0 : (a s, b s) = (true, good) := Option.some.inj h0
    have e1 : a s = true := congrArg Prod.fst e0
    have e2 : b s = good := congrArg Prod.snd e0
    have e3 : (cs.map fun c => o c s) = cs.map v := List.map_congr_left fun c hc => Option.some.inj (h c hc)
    show some (a s, b s, cs.map fun c => o c s) = _
    rw [e1, e2, e3]
section
variable {fa : List He.Fa} {fn : List He.DefD} {tf : List He.Defn} {ex : PySem.W.Frag → List Bool} {tx dc : List (Str × List Str)} {w : World} {h : Heap} {K : PySem.W.Frag}
theorem SaysM.bool (c : SaysM fa fn tf ex tx dc w h K) (i : Nat) {b : Bool} (e : (ex K)[i]? = some b) : b = true := List.all_eq_true.mp c.more b (List.mem_of_getElem? e)
theorem SaysM.tup (c : SaysM fa fn tf ex tx dc w h K) (i : Nat) {x : Str} {ss : List Str} (e : tx[i]? = some (x, ss)) : He.tupB K x (ss.map He.Dv.str) = true := by
  have z := congrArg (fun l : List (Option (List (Option Str))) => l[i]?) c.txs
  simp only [List.getElem?_map, e, Option.map_some] at z
  exact tupV_ok (Option.some.inj z)
theorem SaysM.dct (c : SaysM fa fn tf ex tx dc w h K) (i : Nat) {x : Str} {ks : List Str} (e : dc[i]? = some (x, ks)) : He.dicW K (He.ga K x) = some (He.keysIn w.params ks) := by
  have z := congrArg (fun l : List (Option (List (Option (Str × Int)))) => l[i]?) c.dcs
  simp only [List.getElem?_map, e, Option.map_some] at z
  exact Option.some.inj z
theorem SaysM.dec (c : SaysM fa fn tf ex tx dc w h K) (i : Nat) {P : Prop} [Decidable P] (e : (ex K)[i]? = some (decide P)) : P := of_decide_eq_true (c.bool i e)
theorem SaysM.func (c : SaysM fa fn tf ex tx dc w h K) (i : Nat) {p : Str × Option Str} {name qual : Str} {st : Stmt} (e : fn[i]? = some ⟨p, name, qual, defArgs st, defBody st, defScope st, [], []⟩) : ∃ fd, Fun K name qual st (He.fAd K p) fd := by
  obtain ⟨fd, ⟨oc, od, dV, kV, doc, pm, an, cdv, ct, osl, e1, e2, e3, e4, _⟩, kp⟩ := c.d.def_ i e
  rcases e4 with ⟨_, z⟩ | ⟨z, _⟩
  · subst z
    exact ⟨fd, ⟨oc, od, kV, doc, pm, an, cdv, ct, osl, e1, e2, e3⟩, kp⟩
  · exact absurd rfl z
end
/-- an own exception with an __init__ of its own: its class object -/
def oexB (K : PySem.W.Frag) (C : Addr) : Bool := match K.lookup C with
  | some ⟨.type t, _, .cls cd, sl⟩ => t == "type" && (match cd.mro with
    | .ref D :: bm => D == C && (!cd.hasDel && (cd.hasDict && PySem.HandSPX.refsVE bm))
    | _ => false) && (match sl.toList with
    | [_, _, _, _, some (.builtin n), _] => n == "ValueError.__new__"
    | _ => false)
  | _ => false
theorem oexB_ok {K : PySem.W.Frag} {C : Addr} (h : oexB K C = true) : ∃ nm q N bs bm sn sub ab col dd k0 k1 k2 k3 k5, K.lookup C = some (excClassObj nm q C N bs bm true sn sub ab col dd k0 k1 k2 k3 k5 "ValueError.__new__") ∧ PySem.HandSPX.refsVE bm = true := by
  unfold oexB at h
  cases e : K.lookup C with
  | none => rw [e] at h; cases h
  | some o =>
    rw [e] at h
    obtain ⟨oc, od, dt, ⟨sl⟩⟩ := o
    cases oc with
    | type t =>
      cases dt with
      | cls cd =>
        obtain ⟨h1, h2⟩ := Bool.and_eq_true_iff.mp h
        obtain ⟨h3, h4⟩ := Bool.and_eq_true_iff.mp h1
        obtain rfl : t = "type" := beq_iff_eq.mp h3
        obtain ⟨nm, bs, mro, N, q, hd, sn, sub, ab, col, del⟩ := cd
        dsimp only at h2 h4
        match mro, h4 with
        | .ref D :: bm, h4 =>
          obtain ⟨h5, h6⟩ := Bool.and_eq_true_iff.mp h4
          obtain ⟨h7, h8⟩ := Bool.and_eq_true_iff.mp h6
          obtain ⟨h9, h10⟩ := Bool.and_eq_true_iff.mp h8
          obtain rfl : D = C := beq_iff_eq.mp h5
          obtain rfl : hd = true := h9
          obtain rfl : del = false := by simpa using h7
          match sl, h2 with
          | [k0, k1, k2, k3, some (.builtin n), k5], h2 =>
            obtain rfl : n = "ValueError.__new__" := beq_iff_eq.mp h2
            exact ⟨nm, q, N, bs, bm, sn, sub, ab, col, od, k0, k1, k2, k3, k5, rfl, h10⟩
      | _ => cases h
    | _ => cases h
def veiB (K : PySem.W.Frag) (C : Addr) : Bool := match PySem.W.findCls K (.ref C) (.type "type") "__init__" with
  | some (.val (.builtin n)) => n == "ValueError.__init__"
  | _ => false
theorem veiB_ok {K : PySem.W.Frag} {C : Addr} (h : veiB K C = true) : PySem.W.findCls K (.ref C) (.type "type") "__init__" = some (.val (.builtin "ValueError.__init__")) := by
  unfold veiB at h
  split at h
  · rename_i n e
    rw [e, beq_iff_eq.mp h]
  · cases h
/-- the walk of a law, by what the hook says -/
theorem walkM {l : PySem.W.OpenLaw} {n k : Nat} {q : Program} {loose : List Str} {XP : (Str → Option Value) → Heap → Prop} {YP : World → Heap → Prop} {d : DefRec} {CX : World → CXT} {x : Str} (hn : l.most = some n) (hle : n ≤ sizeLine) (hdf : d.params.defaults = []) (hr : Room k callerA)
    (F : ∀ (w : World) (mg : Str → Option Value) (fa : Addr) (h : Heap), YP w h → h.Ns mainGlobals mg → mg d.name = some (.ref fa) → ∃ (K : PySem.W.Frag) (fd : FuncData) (sp : Sp), K.In h ∧ (∀ (s : Shared) (u : Value), BindsTo s fd ⟨[u], []⟩ [(x, u)]) ∧
      (∀ (H : Hp) (a : Addr) (ns : List Int), ns.length ≤ n → Only H → SqL K H a (ns.map V.int) → sp [.ref a] H (fun v _ => v = .bl true) fun _ _ _ => False) ∧ ∀ base : Heap, K.In base → base.Ns mainGlobals mg → FnOk l.prog w K mg base (CX w) k fa fd [x] sp)
    (hCX : ∀ (w : World) (H : Hp) (s : Shared) (e : Value) (s' : Shared), CX w [] H s (fun _ _ _ => False) e s' → False) : PySem.W.WalkO q loose XP YP l.row.toRowW d [] (fun f vs => PySem.call f vs) :=
  Att.attach_call hn hdf fun w s0 s1 mg mb fa o pm cd doc a vs ns G Y ho hd hcd hmg hobj hints hlen hg => by
    obtain ⟨K, fd, sp, hK, hb, hs, hF⟩ := F w mg fa _ Y G.T.g hmg
    refine law_call hK G.T.g G.T.b G.T.builtins G.T.nolimit hg hobj hints ?_ hr hF hb (fun H o s => hs H a ns hlen o s) fun H e s' c => hCX w H s1 e s' c
    exact Nat.le_trans hlen hle
end Z

namespace My
open PySem L2
def top (i : Nat) : Stmt := PySem.Challenge.pw_ownchain_k11_words_that_cannot_stand.main.body.getD i (.Pass ⟨0, 0, 0, 0⟩)
abbrev st_NoText_init : Stmt := inClass (top 3) 0
abbrev nm_NoText_init : List Str := ["self", "at"]
abbrev st_word_of : Stmt := top 21
abbrev nm_word_of : List Str := ["kind"]
abbrev st_kind_of : Stmt := top 22
abbrev nm_kind_of : List Str := ["word", "kind"]
abbrev st_parts_of : Stmt := top 23
abbrev nm_parts_of : List Str := ["kind"]
abbrev st_is_of : Stmt := top 34
abbrev nm_is_of : List Str := ["word", "signs", "most", "sign"]
abbrev st_is_name : Stmt := top 35
abbrev nm_is_name : List Str := ["word"]
abbrev st_is_number_of : Stmt := top 36
abbrev nm_is_number_of : List Str := ["word", "most", "figures"]
abbrev st_is_number_word : Stmt := top 37
abbrev nm_is_number_word : List Str := ["word"]
abbrev st_words_of : Stmt := top 38
abbrev nm_words_of : List Str := ["text", ".0", "word"]
abbrev st_heads_inp : Stmt := top 39
abbrev nm_heads_inp : List Str := ["words", "found", "number", "at", "end"]
abbrev st_Reader_init : Stmt := inClass (top 40) 0
abbrev nm_Reader_init : List Str := ["self", "words"]
abbrev st_Reader_is_left : Stmt := inClass (top 40) 1
abbrev nm_Reader_is_left : List Str := ["self"]
abbrev st_Reader_due : Stmt := inClass (top 40) 2
abbrev nm_Reader_due : List Str := ["self", "is_fit"]
abbrev st_Reader_fixed_word : Stmt := inClass (top 40) 3
abbrev nm_Reader_fixed_word : List Str := ["self", "word"]
abbrev st_Reader_fresh_name : Stmt := inClass (top 40) 4
abbrev nm_Reader_fresh_name : List Str := ["self", "taken"]
abbrev st_Reader_boxes_to : Stmt := inClass (top 40) 5
abbrev nm_Reader_boxes_to : List Str := ["self", "end", "boxes", "most"]
abbrev st_Reader_how_many : Stmt := inClass (top 40) 6
abbrev nm_Reader_how_many : List Str := ["self", "least"]
abbrev st_Reader_node : Stmt := inClass (top 40) 7
abbrev nm_Reader_node : List Str := ["self", "boxes", "deep", "word", "kind", "found", "many", "k"]
abbrev st_Reader_own_numbers : Stmt := inClass (top 40) 8
abbrev nm_Reader_own_numbers : List Str := ["self", "kind", "boxes", "many", "number"]
abbrev st_is_node_word : Stmt := top 41
abbrev nm_is_node_word : List Str := ["word", "boxes"]
abbrev st_read_text : Stmt := top 42
abbrev nm_read_text : List Str := ["text", "reader", "names", "heads", "bodies", "name", "boxes", "params", ".0", "one"]
abbrev st_Lpen : Stmt := top 44
abbrev nm_Lpen : List Str := ["_law_script", "_law_k", "_law_cell"]
abbrev st_Ldraw : Stmt := top 45
abbrev nm_Ldraw : List Str := ["_law_pen_here", "_law_many", "_law_drawn", "_law_number_here"]
abbrev st_Lwords : Stmt := top 46
abbrev nm_Lwords : List Str := ["_law_words_here"]
abbrev st_Lname : Stmt := top 47
abbrev nm_Lname : List Str := ["_law_pen_here", "_law_taken", "_law_letters", "_law_size", "_law_signs", ".0", "_law_k"]
abbrev st_Lheads : Stmt := top 48
abbrev nm_Lheads : List Str := ["_law_pen_here", "_law_most", "_law_found", "_law_taken", "_law_k", "_law_name_here", "_law_params", "_law_boxes", "_law_j"]
abbrev st_Lnumber : Stmt := top 49
abbrev nm_Lnumber : List Str := ["_law_pen_here", "_law_is_far", "_law_way"]
abbrev st_Lshape : Stmt := top 50
abbrev nm_Lshape : List Str := ["_law_pen_here", "_law_heads_here", "_law_boxes", "_law_left", "_law_deep", "_law_kind", "_law_number_here", "_law_at", "_law_word", "_law_many", "_law_words_here", "_law_numbers", "_law_count", "_law_k", "_law_more", "_law_further"]
abbrev st_Lprogram : Stmt := top 51
abbrev nm_Lprogram : List Str := ["_law_pen_here", "_law_most", "_law_room", "_law_heads_here", "_law_name_here", "_law_boxes", "_law_params", "_law_names", "_law_sheet", "_law_lines", "_law_words_here", "_law_numbers", "_law_line", ".0"]
abbrev st_Lright : Stmt := top 52
abbrev nm_Lright : List Str := ["_law_e", "_law_at"]
abbrev st_Lcaught : Stmt := top 53
abbrev nm_Lcaught : List Str := ["_law_text", "_law_caught_here", "_law_e"]
abbrev st_Lbad_names : Stmt := top 54
abbrev nm_Lbad_names : List Str := []
abbrev st_Lbad_heads : Stmt := top 55
abbrev nm_Lbad_heads : List Str := ["_law_pen_here", "_law_names", "_law_number_here", "_law_bad", "_law_name_here", "_law_boxes", "_law_way", "_law_start", ".0", "_law_letter"]
abbrev st_Lbad_bodies : Stmt := top 56
abbrev nm_Lbad_bodies : List Str := ["_law_pen_here", "_law_names", "_law_there", "_law_strange", "_law_some", ".0", "_law_name_here", "_law_boxes", "_law_word"]
abbrev st_Ltexts : Stmt := top 57
abbrev nm_Ltexts : List Str := ["_law_short", "_law_some", ".0", "_law_letter"]
abbrev st_Lspoilt : Stmt := top 58
abbrev nm_Lspoilt : List Str := ["_law_pen_here", "_law_names", "_law_lines", "_law_number_here", "_law_words_here", "_law_bad", "_law_at", "_law_head"]
abbrev st_Llone : Stmt := top 59
abbrev nm_Llone : List Str := ["_law_names", "_law_lines", "_law_found", "_law_line"]
abbrev st_law : Stmt := top 60
abbrev nm_law : List Str := ["_law_script", "_law_k", "_law_pen_here", "_law_names", "_law_sheet", "_law_lines", "_law_plain", "_law_turn", "_law_words_here", "_law_at", "_law_text", "_law_caught_here", "_law_thing", ".0", "_law_line"]
end My
namespace My
open PySem Z
open L2 hiding rLen Same Same.refl Same.trans Same.free Same.seq Same.made

/-! ### the top's run, and what is told of it -/
def hnames0 : List Str := ["ChainError", "NoSheet", "NoText", "NoCode", "NoRow", "NoName", "NUMBER", "GET", "SET", "ALL", "PICK", "LOOP", "CALL", "FAIL", "PUT", "SIZE", "NEW", "EARLY", "LATE", "word_of", "kind_of", "parts_of", "LETTERS", "FIGURES", "MOST_LETTERS", "MOST_FIGURES", "MOST_FUNCTIONS", "MOST_PARAMS", "MOST_BOXES", "MOST_PARTS"]
def hnames1 : List Str := ["DEEPEST", "is_of", "is_name", "is_number_of", "is_number_word", "words_of", "heads_in", "Reader", "is_node_word", "read_text", "_law_pen", "_law_draw", "_law_words", "_law_name", "_law_heads", "_law_number", "_law_shape", "_law_program", "_law_right", "_law_caught", "_law_bad_names", "_law_bad_heads", "_law_bad_bodies", "_law_texts", "_law_spoilt", "_law_lone"]
def hnames : List Str := hnames0 ++ (hnames1)
abbrev htf : List He.Defn := [(("Reader", some "fixed_word") : He.Defn), (("Reader", some "fresh_name") : He.Defn), (("Reader", some "how_many") : He.Defn), (("Reader", some "node") : He.Defn), (("Reader", some "own_numbers") : He.Defn)]
abbrev htx : List (Str × List Str) := []
abbrev hdc : List (Str × List Str) := []
def hfa0 : List He.Fa := [
  .int "NUMBER" 0,
  .int "GET" 1,
  .int "SET" 2,
  .int "ALL" 3,
  .int "PICK" 4,
  .int "LOOP" 5,
  .int "CALL" 6,
  .int "FAIL" 7,
  .int "PUT" 17,
  .int "SIZE" 18,
  .int "NEW" 19,
  .str "LETTERS" "abcdefghijklmnopqrstuvwxyz",
  .str "FIGURES" "0123456789",
  .int "MOST_LETTERS" 8,
  .int "MOST_FIGURES" 60,
  .int "MOST_FUNCTIONS" 16,
  .int "MOST_PARAMS" 4,
  .int "MOST_BOXES" 12,
  .int "MOST_PARTS" 12,
  .int "DEEPEST" 10,
  .glo "EARLY",
  .glo "LATE",
  .free "ValueError",
  .free "bool",
  .free "int",
  .free "isinstance",
  .free "len",
  .free "list",
  .free "other",
  .free "range",
  .free "str",
  .free "sum",
  .free "tuple",
  .free "word",
  .glo "Reader",
  .cls "Reader",
  .mkr "Reader",
  .meth "Reader" "is_left",
  .meth "Reader" "due",
  .meth "Reader" "fixed_word",
  .meth "Reader" "fresh_name",
  .meth "Reader" "boxes_to",
  .meth "Reader" "how_many",
  .meth "Reader" "node",
  .meth "Reader" "own_numbers",
  .noat "Reader" "words",
  .noat "Reader" "at",
  .noat "Reader" "heads",
  .glo "word_of",
  .glo "kind_of",
  .glo "parts_of",
  .glo "is_of",
  .glo "is_name",
  .glo "is_number_of",
  .glo "is_number_word",
  .glo "words_of",
  .glo "heads_in",
  .glo "is_node_word",
  .glo "read_text",
  .glo "_law_pen"]
def hfn0 : List He.DefD := [
  ⟨("NoText", some "__init__"), "__init__", "NoText.__init__", defArgs st_NoText_init, defBody st_NoText_init, defScope st_NoText_init, [], []⟩,
  ⟨("word_of", none), "word_of", "word_of", defArgs st_word_of, defBody st_word_of, defScope st_word_of, [], []⟩,
  ⟨("kind_of", none), "kind_of", "kind_of", defArgs st_kind_of, defBody st_kind_of, defScope st_kind_of, [], []⟩,
  ⟨("parts_of", none), "parts_of", "parts_of", defArgs st_parts_of, defBody st_parts_of, defScope st_parts_of, [], []⟩,
  ⟨("is_of", none), "is_of", "is_of", defArgs st_is_of, defBody st_is_of, defScope st_is_of, [], []⟩,
  ⟨("is_name", none), "is_name", "is_name", defArgs st_is_name, defBody st_is_name, defScope st_is_name, [], []⟩,
  ⟨("is_number_of", none), "is_number_of", "is_number_of", defArgs st_is_number_of, defBody st_is_number_of, defScope st_is_number_of, [], []⟩,
  ⟨("is_number_word", none), "is_number_word", "is_number_word", defArgs st_is_number_word, defBody st_is_number_word, defScope st_is_number_word, [], []⟩,
  ⟨("words_of", none), "words_of", "words_of", defArgs st_words_of, defBody st_words_of, defScope st_words_of, [], []⟩,
  ⟨("heads_in", none), "heads_in", "heads_in", defArgs st_heads_inp, defBody st_heads_inp, defScope st_heads_inp, [], []⟩,
  ⟨("Reader", some "__init__"), "__init__", "Reader.__init__", defArgs st_Reader_init, defBody st_Reader_init, defScope st_Reader_init, [], []⟩,
  ⟨("Reader", some "is_left"), "is_left", "Reader.is_left", defArgs st_Reader_is_left, defBody st_Reader_is_left, defScope st_Reader_is_left, [], []⟩,
  ⟨("Reader", some "due"), "due", "Reader.due", defArgs st_Reader_due, defBody st_Reader_due, defScope st_Reader_due, [], []⟩,
  ⟨("Reader", some "fixed_word"), "fixed_word", "Reader.fixed_word", defArgs st_Reader_fixed_word, defBody st_Reader_fixed_word, defScope st_Reader_fixed_word, [], []⟩,
  ⟨("Reader", some "fresh_name"), "fresh_name", "Reader.fresh_name", defArgs st_Reader_fresh_name, defBody st_Reader_fresh_name, defScope st_Reader_fresh_name, [], []⟩,
  ⟨("Reader", some "boxes_to"), "boxes_to", "Reader.boxes_to", defArgs st_Reader_boxes_to, defBody st_Reader_boxes_to, defScope st_Reader_boxes_to, [], []⟩,
  ⟨("Reader", some "how_many"), "how_many", "Reader.how_many", defArgs st_Reader_how_many, defBody st_Reader_how_many, defScope st_Reader_how_many, [], []⟩,
  ⟨("Reader", some "node"), "node", "Reader.node", defArgs st_Reader_node, defBody st_Reader_node, defScope st_Reader_node, [], []⟩,
  ⟨("Reader", some "own_numbers"), "own_numbers", "Reader.own_numbers", defArgs st_Reader_own_numbers, defBody st_Reader_own_numbers, defScope st_Reader_own_numbers, [], []⟩,
  ⟨("is_node_word", none), "is_node_word", "is_node_word", defArgs st_is_node_word, defBody st_is_node_word, defScope st_is_node_word, [], []⟩,
  ⟨("read_text", none), "read_text", "read_text", defArgs st_read_text, defBody st_read_text, defScope st_read_text, [], []⟩,
  ⟨("_law_pen", none), "_law_pen", "_law_pen", defArgs st_Lpen, defBody st_Lpen, defScope st_Lpen, [], []⟩,
  ⟨("_law_draw", none), "_law_draw", "_law_draw", defArgs st_Ldraw, defBody st_Ldraw, defScope st_Ldraw, [], []⟩,
  ⟨("_law_words", none), "_law_words", "_law_words", defArgs st_Lwords, defBody st_Lwords, defScope st_Lwords, [], []⟩]
def hex0 (K : PySem.W.Frag) : List Bool := [
  He.tupB K "EARLY" [.str "set", .str "all", .str "pick", .str "loop", .str "call", .str "fail", .str "add", .str "sub", .str "mul"],
  He.tupB K "LATE" [.str "quo", .str "rest", .str "less", .str "same", .str "push", .str "at", .str "put", .str "size", .str "new"],
  PySem.W.readsIn K (He.ga K "ChainError") (.type "type"),
  decide (PySem.W.specialIn K (.ref (He.ga K "ChainError")) "__getattribute__" = some (some (.builtin "type.__getattribute__"))),
  _root_.Z.veiB K (He.ga K "ChainError"),
  decide (PySem.W.findIn K (.ref (He.ga K "NoText")) "at" = some none),
  _root_.Z.oexB K (He.ga K "NoText"),
  decide (PySem.W.findIn K (.ref (He.ga K "NoText")) "__setattr__" = some (some (.builtin "object.__setattr__"))),
  decide (PySem.W.subIn K (.ref (He.ga K "NoText")) (.type "BaseException") = some true),
  decide (PySem.W.typeIn K (.ref (He.ga K "NoText")) = some (.type "type")),
  PySem.W.keepIn K (.ref (He.ga K "NoText")),
  xfB K (He.ga K "NoText"),
  decide (PySem.W.findIn K (.ref (He.ga K "NoText")) "__init__" = some (some (.ref (He.fAd K ("NoText", some "__init__"))))),
  decide (PySem.W.typeIn K (.ref (He.fAd K ("NoText", some "__init__"))) = some (.type "function"))]
abbrev hc0 : _root_.Z.Chk := ⟨hfa0, hfn0, htf, hex0, htx, hdc⟩
def hfa1 : List He.Fa := [
  .glo "_law_draw",
  .glo "_law_words",
  .glo "_law_name",
  .glo "_law_heads",
  .glo "_law_number",
  .glo "_law_shape",
  .glo "_law_program",
  .glo "_law_right",
  .glo "_law_caught",
  .glo "_law_bad_names",
  .glo "_law_bad_heads",
  .glo "_law_bad_bodies",
  .glo "_law_texts",
  .glo "_law_spoilt",
  .glo "_law_lone",
  .glo "law",
  .glo "ChainError",
  .glo "NoSheet",
  .glo "NoText",
  .glo "NoCode",
  .glo "NoRow",
  .glo "NoName",
  .exm "NoText" "ChainError" true]
def hfn1 : List He.DefD := [
  ⟨("_law_name", none), "_law_name", "_law_name", defArgs st_Lname, defBody st_Lname, defScope st_Lname, [], []⟩,
  ⟨("_law_heads", none), "_law_heads", "_law_heads", defArgs st_Lheads, defBody st_Lheads, defScope st_Lheads, [], []⟩,
  ⟨("_law_number", none), "_law_number", "_law_number", defArgs st_Lnumber, defBody st_Lnumber, defScope st_Lnumber, [], []⟩,
  ⟨("_law_shape", none), "_law_shape", "_law_shape", defArgs st_Lshape, defBody st_Lshape, defScope st_Lshape, [], []⟩,
  ⟨("_law_program", none), "_law_program", "_law_program", defArgs st_Lprogram, defBody st_Lprogram, defScope st_Lprogram, [], []⟩,
  ⟨("_law_right", none), "_law_right", "_law_right", defArgs st_Lright, defBody st_Lright, defScope st_Lright, [], []⟩,
  ⟨("_law_caught", none), "_law_caught", "_law_caught", defArgs st_Lcaught, defBody st_Lcaught, defScope st_Lcaught, [], []⟩,
  ⟨("_law_bad_names", none), "_law_bad_names", "_law_bad_names", defArgs st_Lbad_names, defBody st_Lbad_names, defScope st_Lbad_names, [], []⟩,
  ⟨("_law_bad_heads", none), "_law_bad_heads", "_law_bad_heads", defArgs st_Lbad_heads, defBody st_Lbad_heads, defScope st_Lbad_heads, [], []⟩,
  ⟨("_law_bad_bodies", none), "_law_bad_bodies", "_law_bad_bodies", defArgs st_Lbad_bodies, defBody st_Lbad_bodies, defScope st_Lbad_bodies, [], []⟩,
  ⟨("_law_texts", none), "_law_texts", "_law_texts", defArgs st_Ltexts, defBody st_Ltexts, defScope st_Ltexts, [], []⟩,
  ⟨("_law_spoilt", none), "_law_spoilt", "_law_spoilt", defArgs st_Lspoilt, defBody st_Lspoilt, defScope st_Lspoilt, [], []⟩,
  ⟨("_law_lone", none), "_law_lone", "_law_lone", defArgs st_Llone, defBody st_Llone, defScope st_Llone, [], []⟩,
  ⟨("law", none), "law", "law", defArgs st_law, defBody st_law, defScope st_law, [], []⟩]
def hex1 (K : PySem.W.Frag) : List Bool := [
  decide (PySem.W.findIn K (.ref (He.ga K "NoText")) "__getattribute__" = some (some (.builtin "BaseException.__getattribute__"))),
  decide (PySem.W.findIn K (.ref (He.ga K "NoText")) "__getattr__" = some none),
  PySem.W.hasDictIn K (He.ga K "NoText"),
  decide (PySem.W.findIn K (.ref (He.ga K "NoText")) "__class__" = some (some (.builtin "object.__class__"))),
  decide (PySem.W.specialIn K (.builtin "object.__class__") "__get__" = some (some (.builtin "getset_descriptor.__get__"))),
  decide (PySem.W.takesIn K (.builtin "object.__class__") = some true),
  decide (PySem.W.mroIn K (He.ga K "NoText") (.type "object") = some true),
  decide (PySem.W.kitOne K (.ref (He.ga K "NoText")) (.type "ValueError") = some true),
  decide (PySem.W.kitOne K (.ref (He.ga K "NoText")) (.ref (He.ga K "NoCode")) = some false),
  decide (PySem.W.kitOne K (.ref (He.ga K "NoText")) (.ref (He.ga K "NoName")) = some false),
  decide (PySem.W.kitOne K (.ref (He.ga K "NoText")) (.ref (He.ga K "NoRow")) = some false),
  decide (PySem.W.kitOne K (.ref (He.ga K "NoText")) (.ref (He.ga K "NoSheet")) = some false),
  decide (PySem.W.kitOne K (.ref (He.ga K "NoText")) (.ref (He.ga K "NoText")) = some true),
  decide ((He.cT K (("Reader", some "fresh_name") : He.Defn)).2 ≠ (He.cT K (("Reader", some "fixed_word") : He.Defn)).2)]
abbrev hc1 : _root_.Z.Chk := ⟨hfa1, hfn1, [], hex1, [], []⟩
def hfa2 : List He.Fa := []
def hfn2 : List He.DefD := []
def hex2 (K : PySem.W.Frag) : List Bool := [
  decide ((He.cT K (("Reader", some "how_many") : He.Defn)).2 ≠ (He.cT K (("Reader", some "fixed_word") : He.Defn)).2),
  decide ((He.cT K (("Reader", some "how_many") : He.Defn)).2 ≠ (He.cT K (("Reader", some "fresh_name") : He.Defn)).2),
  decide ((He.cT K (("Reader", some "node") : He.Defn)).2 ≠ (He.cT K (("Reader", some "fixed_word") : He.Defn)).2),
  decide ((He.cT K (("Reader", some "node") : He.Defn)).2 ≠ (He.cT K (("Reader", some "fresh_name") : He.Defn)).2),
  decide ((He.cT K (("Reader", some "node") : He.Defn)).2 ≠ (He.cT K (("Reader", some "how_many") : He.Defn)).2),
  decide ((He.cT K (("Reader", some "own_numbers") : He.Defn)).2 ≠ (He.cT K (("Reader", some "fixed_word") : He.Defn)).2),
  decide ((He.cT K (("Reader", some "own_numbers") : He.Defn)).2 ≠ (He.cT K (("Reader", some "fresh_name") : He.Defn)).2),
  decide ((He.cT K (("Reader", some "own_numbers") : He.Defn)).2 ≠ (He.cT K (("Reader", some "how_many") : He.Defn)).2),
  decide ((He.cT K (("Reader", some "own_numbers") : He.Defn)).2 ≠ (He.cT K (("Reader", some "node") : He.Defn)).2)]
abbrev hc2 : _root_.Z.Chk := ⟨hfa2, hfn2, [], hex2, [], []⟩
abbrev hcs : List _root_.Z.Chk := [hc0, hc1, hc2]
abbrev hR : PySem.W.OpenRow := PySem.W.OpenLaw.row PySem.Challenge.rw_ownchain_k11_words_that_cannot_stand
abbrev hq : Program := PySem.W.view hR.prog [60]
abbrev hhk : PySem.W.Hook := _root_.Z.hookM 4 hcs
abbrev hob (s : PySem.W.SharedT) : List _root_.Z.ObsT := hcs.map fun c => c.obs 4 (HandSHeadRun.getT s)
theorem hob_eq (s : PySem.W.SharedT) : hob s = hhk.obs s.abs := _root_.Z.obsM_eq (HandSHeadRun.getT_eq s)
section
open PySem.W HandSHeadRun
set_option maxHeartbeats 0 in
theorem hrunS (w : World) : ∀ os : OsState, (endF (stepQ (denQ tabQ) hR.prog w) 20000 hR.prog w os).map (fun s => (looksF hR.prog (boot_heap w.params) s.abs, seenQ hq hnames (importedModules hR.prog.main.body) (fun s => xlAt hq [] s && recOk hR.toRowW.records s) s.abs)) = some (true, openGood hq hnames) := by
  intro os
  kernel_rfl
set_option maxHeartbeats 0 in
theorem hrun0 (w : World) : ∀ os : OsState, (endF (stepQ (denQ tabQ) hR.prog w) 20000 hR.prog w os).map (fun s => hc0.obs 4 (getT s)) = some (hc0.val w) := by
  intro os
  kernel_rfl
set_option maxHeartbeats 0 in
theorem hrun1 (w : World) : ∀ os : OsState, (endF (stepQ (denQ tabQ) hR.prog w) 20000 hR.prog w os).map (fun s => hc1.obs 4 (getT s)) = some (hc1.val w) := by
  intro os
  kernel_rfl
set_option maxHeartbeats 0 in
theorem hrun2 (w : World) : ∀ os : OsState, (endF (stepQ (denQ tabQ) hR.prog w) 20000 hR.prog w os).map (fun s => hc2.obs 4 (getT s)) = some (hc2.val w) := by
  intro os
  kernel_rfl
theorem hrun (w : World) : RunEq hR hq hhk hob 20000 hnames w := fun os => _root_.Z.runs_of (cs := hcs) (o := fun c s => c.obs 4 (getT s)) (v := fun c => c.val w) (hrunS w os) fun c hc => by
  first | simp only [hcs, List.mem_cons, List.not_mem_nil, or_false] at hc | simp only [List.mem_cons, List.not_mem_nil, or_false] at hc
  rcases hc with rfl | rfl | rfl
  · exact hrun0 w os
  · exact hrun1 w os
  · exact hrun2 w os
end
theorem imp_use {P Q : Prop} (p : P) (f : P → Q) : Q := f p
abbrev AllT : Prop := ∀ (w : World) (mg : Str → Option Value) (f : Addr) (h : Heap), (∃ K : PySem.W.Frag, K.In h ∧ ∀ c ∈ hcs, _root_.Z.SaysM c.fa c.fn c.tf c.ex c.tx c.dc w h K) → h.Ns mainGlobals mg → mg "law" = some (.ref f) → ∃ K : PySem.W.Frag, K.In h ∧ LamX.LawAtS PySem.Challenge.rw_ownchain_k11_words_that_cannot_stand w K (L2.CX (PySem.Challenge.rw_ownchain_k11_words_that_cannot_stand).prog w) 22 63 "_law_script" mg f h
end My
section
open PySem PySem.W PySem.Calls PyProof.Rows
local macro_rules
  | `(tactic| refine $h:ident $args*) => do
    unless [`PySem.W.holds_open, `PySem.W.holds_openC, `PySem.W.holds_openN, `PySem.W.holds_openCN].contains h.getId do Lean.Macro.throwUnsupported
    let a := Lean.mkIdent `A
    `(tactic| refine My.imp_use (P := My.AllT) @$a (fun ($a : My.AllT) => $h $args*))
theorem My.head_ownchain_k11_words_that_cannot_stand (A : My.AllT) : PySem.Challenge.rw_ownchain_k11_words_that_cannot_stand.Holds := by
  w_on; o_law
  refine HandSHeadRun.head_any (r := My.hR) (q := My.hq) (H := My.hhk) (ob := My.hob) (M := 20000) (loose := My.hnames) (d := HandSHeadRun.topDef My.hR.prog 60) (kwd := []) My.hob_eq (by kernel_rfl) (fun s => by kernel_rfl) My.hrun (by kernel_rfl) (by kernel_rfl) (by kernel_rfl) (by rfl) (by first | assumption | decide +kernel) (by decide +kernel) ⟨rfl, rfl, rfl, rfl, rfl, by decide +kernel⟩ ?hw ?hc
  case hw => w_witness2
  case hc =>
    refine LamX.walk_ofTsE (l := PySem.Challenge.rw_ownchain_k11_words_that_cannot_stand) (n := 63) (k := 22) (x := "_law_script") (CX := fun w => L2.CX (PySem.Challenge.rw_ownchain_k11_words_that_cannot_stand).prog w) rfl (by decide) (by kernel_rfl) ⟨rfl, by decide, by decide⟩ ?F ?C
    case C =>
      intro w H s e s' z
      obtain ⟨_, _, _, _, _, _, _, _, _, _, _, _, z⟩ := z
      exact z.elim
    case F =>
      intro w mg f h Y G hm
      have hl : mg ("law" : PySem.Str) = some (.ref f) := by
        have e : (HandSHeadRun.topDef My.hR.prog 60).name = ("law" : PySem.Str) := by kernel_rfl
        rw [← e]
        exact hm
      exact A w mg f h Y G hl
end
set_option Elab.async false
set_option linter.all false
set_option maxRecDepth 100000
set_option maxHeartbeats 4000000
/-! Step lemmas over the hand layer's readings: each goal of a reading is turned by one lemma. -/
/-- the names that the tables of code objects bear, by place -/
class TQ where
  q : PySem.Addr → PySem.Str
namespace Z
open PySem PySem.Spec PyProof.Rows L2

abbrev kS (s : Str) : Key := Sum.inr s
abbrev kI (i : Int) : Key := Sum.inl i
/-! ### universal rules: by the values -/
section
variable {X : Cx}
def rFdv : R2 := rI (fun _ j => j ≠ 0 ∧ j.natAbs.log2 < 9000) fun i j => .int (i.fdiv j)
theorem op_fdv : OpR X (binaryOp .FloorDiv) rFdv := opI fun i j _ _ _ _ _ hc q => floordiv_int hc.1 q (.inl (PyProof.noPylong_of_log2 hc.2))
def rMod : R2 := rI (fun _ j => j ≠ 0) fun i j => .int (i.fmod j)
theorem op_md : OpR X (binaryOp .Mod) rMod := op_modN
def rMul : R2 := rI (fun i j => CMul i j ∨ CMulW i j) fun i j => .int (i * j)
theorem op_ml : OpR X (binaryOp .Mult) rMul := opI fun _ _ _ _ _ _ _ hc q => mul_int q (hc.elim CMul.ok CMulW.ok)
def rAddI : R2 := rI0 fun i j => .int (i + j)
def rAddS : R2 := fun x y H Q => ∃ i j, x = .str i ∧ y = .str j ∧ i.length + j.length ≤ sizeLine ∧ Q (.str (i ++ j)) H
def rAddU (K : PySem.W.Frag) : R2 := fun x y H Q => rAddI x y H Q ∨ rAddS x y H Q ∨ rCat x y H Q ∨ rCatA K x y H Q
theorem op_addU : OpR X (binaryOp .Add) (rAddU X.K) := OpR.or op_add (OpR.or op_add_str (OpR.or op_cat op_catA))
def rLenE (b : Bool) : R2 := fun x y H Q => ∃ p q xs ys, x = .ref p ∧ y = .ref q ∧ H p = some (.lst xs) ∧ H q = some (.lst ys) ∧ xs.length ≠ ys.length ∧ Q (.bl b) H
theorem lens_of {pins : List (Addr × Obj)} {σ : L2.St} {H : Hp} {s : Shared} {p q : Addr} {xs ys : List V} (I : Inv X pins σ H s) (h1 : H p = some (.lst xs)) (h2 : H q = some (.lst ys)) (hn : xs.length ≠ ys.length) :
    ∃ i1 i2 : Array Value, s.heap.IsList p i1 ∧ s.heap.IsList q i2 ∧ (i1.size != i2.size) = true := by
  obtain ⟨_, a, n, _, la, ea⟩ := I.lstM h1
  obtain ⟨_, b, m, _, lb, eb⟩ := I.lstM h2
  refine ⟨a.toArray, b.toArray, ⟨_, ea, rfl, n, rfl⟩, ⟨_, eb, rfl, m, rfl⟩, ?_⟩
  rw [List.size_toArray, List.size_toArray, ← la, ← lb]
  simpa using hn
theorem op_eqLen (hu : X.A.units + 64 < cLine) : OpR X (compareOp .Eq) (rLenE false) := fun pins s σ H x y v u Q I rx ry h => by
  obtain ⟨p, q, xs, ys, rfl, rfl, h1, h2, hn, k⟩ := h
  obtain rfl : v = Value.ref p := rx
  obtain rfl : u = Value.ref q := ry
  obtain ⟨i1, i2, a, b, c⟩ := lens_of I h1 h2 hn
  exact PySem.SeqAt.RcAt.lists_lengths a b c (by omega) X.prog X.w X.xe _ ⟨.bl false, H, I, rfl, k⟩
theorem op_neLen (hu : X.A.units + 64 < cLine) : OpR X (compareOp .NotEq) (rLenE true) := fun pins s σ H x y v u Q I rx ry h => by
  obtain ⟨p, q, xs, ys, rfl, rfl, h1, h2, hn, k⟩ := h
  obtain rfl : v = Value.ref p := rx
  obtain rfl : u = Value.ref q := ry
  obtain ⟨i1, i2, a, b, c⟩ := lens_of I h1 h2 hn
  exact PySem.SeqAt.RcNeAt.lists_lengths a b c (by omega) X.prog X.w X.xe _ ⟨.bl true, H, I, rfl, k⟩
def rEqU (K : PySem.W.Frag) : R2 := fun x y H Q => rEq x y H Q ∨ rEqD K x y H Q ∨ rLenE false x y H Q
theorem op_eqU (hu : X.A.units + 64 < cLine) : OpR X (compareOp .Eq) (rEqU X.K) := OpR.or op_eq (OpR.or (op_eqD hu) (op_eqLen hu))
def rNeU (K : PySem.W.Frag) : R2 := fun x y H Q => rNe x y H Q ∨ rNeD K x y H Q ∨ rLenE true x y H Q
theorem op_neU (hu : X.A.units + 64 < cLine) : OpR X (compareOp .NotEq) (rNeU X.K) := OpR.or op_ne (OpR.or (op_neD hu) (op_neLen hu))
def rSlU (K : PySem.W.Frag) : V → Option Int → Option Int → Hp → VK → Prop := fun x lo hi H Q => rSlL K x lo hi H Q ∨ rSlA K x lo hi H Q
theorem sl_U : SlR X (rSlU X.K) := SlR.or sl_list sl_tupA
def rLen (K : PySem.W.Frag) : List V → Hp → VK → Prop := fun xs H Q => ∃ x n, xs = [x] ∧ LenV K x H n ∧ Q (.int (n : Nat)) H
theorem call_len' : CallR X (.builtin "len") (rLen X.K) := call_len
theorem pe_powc {b n z : Int} {k k' : Nat} {p p' pos : Pos} (hc : CPow b n) (h : b ^ n.toNat = z) : PE X (.BinOp (.Constant (.int b) k p) .Pow (.Constant (.int n) k' p') pos) (tC (.int z)) :=
  ⟨fun pins s σ H Q I q => (pe_op op_pow pe_int pe_int).run pins s σ H Q I ⟨b, n, rfl, rfl, hc, by show Q (.int (b ^ n.toNat)) H; rw [h]; exact q⟩⟩
def rMin2 : List V → Hp → VK → Prop := fun xs H Q => ∃ i j, xs = [.int i, .int j] ∧ Q (.int (if j < i then j else i)) H
theorem call_min' (hc : X.calm = true) : CallR X (.builtin "min") rMin2 := call_min2 hc
def rMax2 : List V → Hp → VK → Prop := fun xs H Q => ∃ i j, xs = [.int i, .int j] ∧ Q (.int (if j > i then j else i)) H
theorem call_max' (hc : X.calm = true) : CallR X (.builtin "max") rMax2 := call_max2 hc
def rListOf (K : PySem.W.Frag) : List V → Hp → VK → Prop := fun xs H Q => ∃ p ys, xs = [.ref p] ∧ (SqL K H p ys ∨ SqT K H p ys) ∧ ∀ l, H l = none → Q (.ref l) (upd H l (.lst ys))
theorem call_list' : CallR X (.type "list") (rListOf X.K) := call_list_of
def rTupOf (K : PySem.W.Frag) : List V → Hp → VK → Prop := fun xs H Q => ∃ p ys, xs = [.ref p] ∧ ((SqL K H p ys ∧ ∀ l, H l = none → Q (.ref l) (upd H l (.tup ys))) ∨ (SqT K H p ys ∧ Q (.ref p) H))
theorem call_tuple' : CallR X (.type "tuple") (rTupOf X.K) := call_tuple_of
def rInt1 : List V → Hp → VK → Prop := fun xs H Q => (∃ i, xs = [.int i] ∧ Q (.int i) H) ∨ ∃ k, xs = [.bl k] ∧ Q (.int (if k then 1 else 0)) H
theorem call_int' : CallR X (.type "int") rInt1 := call_int1
def rAbs : List V → Hp → VK → Prop := fun xs H Q => ∃ i, xs = [.int i] ∧ Q (.int (if i < 0 then -i else i)) H
theorem call_abs' : CallR X (.builtin "abs") rAbs := call_abs
def rStrI : List V → Hp → VK → Prop := fun xs H Q => ∃ i, xs = [.int i] ∧ i.natAbs.log2 < 1920 ∧ Q (.str (toString i)) H
theorem call_str' : CallR X (.type "str") rStrI := call_str_int
def rIsNz : R2 := fun x y H Q => y = .non ∧ Q (.bl (decide (x = .non))) H
theorem op_isNz : OpR X (compareOp .Is) rIsNz := op_isN
def rNotNz : R2 := fun x y H Q => y = .non ∧ Q (.bl (!decide (x = .non))) H
theorem op_notNz : OpR X (compareOp .IsNot) rNotNz := op_notN
/-- a, b = a tuple or a list -/
def gUn (K : PySem.W.Frag) (n : Nat) (t : TGs) : TG := fun v σ H Q => gTup K n t v σ H Q ∨ gLst K n t v σ H Q
theorem pg_un {pos : Pos} {es : List Expr} {k : Nat} {t : TGs} {n : Nat} (hc : X.calm = true) (h : PGs X es t)
    (hn : (assignEach es X.env).length = n := by rfl) (hst : (assignEach es X.env).findIdx? (·.1) = none := by rfl) : PG X (.Tuple es k pos) (gUn X.K n t) :=
  ⟨fun pins s σ H v u Q I r hw => hw.elim (fun z => (pg_tup hc h hn hst).run pins s σ H v u Q I r z) fun z => (pg_lst hc h hn hst).run pins s σ H v u Q I r z⟩
def rIsi2 (K : PySem.W.Frag) : List V → Hp → VK → Prop := fun xs H Q => rIsi K xs H Q ∨ rIsiT K xs H Q
theorem call_isi' : CallR X (.builtin "isinstance") (rIsi2 X.K) := fun pins s σ H vs us Q I r h => h.elim (fun z => call_isi pins s σ H vs us Q I r z) (fun z => call_isiT pins s σ H vs us Q I r z)
end

def rJoin (K : PySem.W.Frag) : V → List V → Hp → VK → Prop := fun x xs H Q => ∃ a p, ∃ ys : List Str, x = .str a ∧ xs = [.ref p] ∧ (SqL K H p (ys.map V.str) ∨ SqT K H p (ys.map V.str)) ∧
  (ys.map (·.length)).sum + ys.length * a.length ≤ 16777216 ∧ Q (.str (Txt.join a ys)) H
def rWords : V → List V → Hp → VK → Prop := fun x xs H Q => ∃ a, x = .str a ∧ xs = [] ∧ a.length + 2 ≤ sizeLine ∧ rNewStrs (Txt.words a) H Q
def rSplit : V → List V → Hp → VK → Prop := fun x xs H Q => ∃ a b, x = .str a ∧ xs = [.str b] ∧ (b.length == 0) = false ∧ a.length + 2 ≤ sizeLine ∧ rNewStrs (Txt.split a b) H Q
def rUpper : V → List V → Hp → VK → Prop := fun x xs H Q => ∃ a, x = .str a ∧ xs = [] ∧ a.length ≤ 5592405 ∧ Q (.str (Txt.upper a)) H
def rRstrip : V → List V → Hp → VK → Prop := fun x xs H Q => ∃ a, x = .str a ∧ xs = [] ∧ a.length ≤ sizeLine ∧ Q (.str (Txt.rstrip a)) H
def rStrip : V → List V → Hp → VK → Prop := fun x xs H Q => ∃ a, x = .str a ∧ xs = [] ∧ a.length ≤ sizeLine ∧ Q (.str (Txt.strip a)) H
theorem sqT_mk {K : PySem.W.Frag} {H : Hp} {a : Addr} {xs : List V} {its : Array Value} {n : Nat} {od : Option Addr} {sl : Array (Option Value)} (l : K.lookup a = some ⟨.type "tuple", od, .seq its n, sl⟩) (hz : its.size ≤ 1000) (v : Vals xs its.toList) : SqT K H a xs :=
  .inr ⟨_, its, n, l, rfl, rfl, Nat.le_trans hz (by decide), v⟩

theorem at_ofN {α : Type} {xs : List α} {z : Int} {j : Nat} {v : α} (e : z = (j : Int)) (h : xs[j]? = some v) : atI xs z = some v := by
  rw [e]
  exact atI_nat h
/-! ### own functions without arguments, methods, made instances: what they may let out at the slots -/
section
open PySem.Calls
variable {X : Cx} {CX : CXT} {k : Nat} {f C : Addr} {fd : FuncData} {ps : List Str} {sp : Sp} {E : L2.St → XK} {x m : Str} {p pos apos : Pos} {e o : Expr} {es : List Expr} {ta : TE} {t : TA}
theorem pe_call0Z (F : FnOk X.prog X.w X.K X.mg X.base CX k f fd ps sp) (hr : Room k X.A) (hg : Gl X x) (hm : X.mg x = some (.ref f)) (hk : PySem.W.keepIn X.K (.ref f) = true) (hb : Binds X.K fd ps []) (hx : ∀ σ, PassesAt CX X σ (E σ))
    (hdb : (x == ("__debug__" : Str)) = false := by decide) : PE X (.Call (.Name x p) [] [] pos) (tCallS sp E tNil) := by
  refine ⟨fun pins s σ H Q I h => ?_⟩
  refine wpAny_Call_Name_kw (ld_glob I hg hm ?_ hdb)
  exact PySem.W.callWith_K0 I.kIn hk (run_fnS (us := []) F hr hb (hx σ) I .nil h)
def zSelf (C : Addr) (m : Str) (x : V) (H : Hp) (N : Prop) : Prop := ∃ a dx fs, x = .ref a ∧ H a = some (.ins C dx fs) ∧ fs.lookup m = none ∧ N
def tMethZ (C : Addr) (m : Str) (sp : Sp) (E : L2.St → XK) (ta : TE) (t : TA) : TE := fun σ H Q => ta σ H fun x H1 => ∃ a dx fs, x = .ref a ∧ H1 a = some (.ins C dx fs) ∧ fs.lookup m = none ∧ t σ H1 fun vs H2 => sp (x :: vs) H2 Q (E σ)
theorem pe_methZ {pl : Sem Bool} (he : PE X o ta) (c : Cls X.K C) (hm : Meth X.K C m f) (F : FnOk X.prog X.w X.K X.mg X.base CX k f fd ps sp) (hr : Room k X.A) (hb : Binds X.K fd ps []) (hx : ∀ σ, PassesAt CX X σ (E σ)) (ha : PA X (e :: es) t)
    (hst : starEach (e :: es) X.env = (false, eval e X.env) :: starEach es X.env := by rfl) (hpl : (backTo pos (starEach es X.env)).any (·.1) = false := by rfl)
    (ht : eval (.Call (.Attribute o m apos) (e :: es) [] pos) X.env = (do
      let ov ← eval o X.env
      standAt apos.atName
      let (f, first) ← holding [ov] (getMethod ov m pl)
      callWith pos f first (backTo pos (starEach (e :: es) X.env)) (backToKw pos (keywordEach [] X.env))) := by rfl) :
    PE X (.Call (.Attribute o m apos) (e :: es) [] pos) (tMethZ C m sp E ta t) := by
  refine ⟨fun pins s σ H Q I h => ?_⟩
  refine PySem.W.methodCall_KW (pl := pl) (thn (he.run pins s σ H _ I h) fun u s1 ⟨x, H1, I1, rx, a, dx, fs, ex, ea, l, q⟩ => ?_) ht
  subst ex
  obtain rfl : u = Value.ref a := rx
  refine getmeth_ok I1 ea c hm l ?_
  refine PySem.W.callWith_K (first := [.ref a]) (h₀ := X.base) I.ok.mod.kin hm.kp (thn (ha.run pos pins s1 σ H1 _ I1 q) fun us s2 ⟨vs, H2, I2, r, q2⟩ => ⟨I2.kIn, ?_⟩) hst hpl
  exact run_fnS (us := .ref a :: us) (vs := .ref a :: vs) F hr hb (hx σ) I2 (.cons rfl r) q2
theorem pe_meth0Z {pl : Sem Bool} (he : PE X o ta) (c : Cls X.K C) (hm : Meth X.K C m f) (F : FnOk X.prog X.w X.K X.mg X.base CX k f fd ps sp) (hr : Room k X.A) (hb : Binds X.K fd ps []) (hx : ∀ σ, PassesAt CX X σ (E σ))
    (ht : eval (.Call (.Attribute o m apos) [] [] pos) X.env = (do
      let ov ← eval o X.env
      standAt apos.atName
      let (f, first) ← holding [ov] (getMethod ov m pl)
      callWith pos f first (backTo pos (starEach [] X.env)) (backToKw pos (keywordEach [] X.env))) := by rfl) :
    PE X (.Call (.Attribute o m apos) [] [] pos) (tMethZ C m sp E ta tNil) := by
  refine ⟨fun pins s σ H Q I h => ?_⟩
  refine PySem.W.methodCall_KW (pl := pl) (thn (he.run pins s σ H _ I h) fun u s1 ⟨x, H1, I1, rx, a, dx, fs, ex, ea, l, q⟩ => ?_) ht
  subst ex
  obtain rfl : u = Value.ref a := rx
  refine getmeth_ok I1 ea c hm l ?_
  exact PySem.W.callWith_K0 (first := [.ref a]) I1.kIn hm.kp (run_fnS (us := [.ref a]) (vs := [.ref a]) F hr hb (hx σ) I1 (.cons rfl .nil) q)
def tMakeZ (C : Addr) (sp : Sp) (E : L2.St → XK) (t : TA) : TE := fun σ H Q => t σ H fun vs H1 => ∀ x dx, H1 x = none → H1 dx = none → dx ≠ x →
  sp (.ref x :: vs) (upd (upd H1 dx (.own x)) x (.ins C dx [])) (fun v H2 => v = .non ∧ Q (.ref x) H2) (E σ)
theorem run_makeZ {pins : List (Addr × Obj)} {σ : L2.St} {H : Hp} {s : Shared} {Q : VK} {us : List Value} {vs : List V} {E : XK} (M : Mk X.K C f) (F : FnOk X.prog X.w X.K X.mg X.base CX k f fd ps sp) (hr : Room (k + 1) X.A) (hb : Binds X.K fd ps [])
    (hx : PassesAt CX X σ E) (I : Inv X pins σ H s) (r : Vals vs us)
    (h : ∀ x dx, H x = none → H dx = none → dx ≠ x → sp (.ref x :: vs) (upd (upd H dx (.own x)) x (.ins C dx [])) (fun v H2 => v = .non ∧ Q (.ref x) H2) E) :
    wpAny (model X.prog X.w) X.A (call (.ref C) us) (EP X pins σ Q) X.xe s := by
  have hq := h (s.heap.objs.size + 1) s.heap.objs.size (I.hok.fresh (Nat.le_succ _)) (I.hok.fresh (Nat.le_refl _)) (Nat.ne_of_lt (Nat.lt_succ_self _))
  have I2 := Inv.made (C := C) I
  have r2 : Vals (V.ref (s.heap.objs.size + 1) :: vs) (Value.ref (s.heap.objs.size + 1) :: us) := .cons rfl r
  have hl : (Value.ref (s.heap.objs.size + 1) :: us).length = ps.length := by rw [← r2.length]; exact F.len _ _ _ _ hq
  have b := hb _ (Value.ref (s.heap.objs.size + 1) :: us) I2.kIn (by rw [List.append_nil]; exact hl)
  rw [List.append_nil] at b
  refine wpAny_call (make_map (f := f) I.kIn M.makes M.init (beq_iff_eq.mp M.fn) (codeAny_mono (F.run _ X.stack _ _ ⟨Value.ref (s.heap.objs.size + 1) :: us, []⟩ (Value.ref (s.heap.objs.size + 1) :: us) _ _ E (hr.make C us [])
    (I2.env0.make C us []) b r2 hq) fun r s' hq' => ?_))
  cases r with
  | error e => exact hx pins _ _ e s' I2 hq'
  | ok fl =>
    cases fl with
    | ret u =>
      obtain ⟨v, H', I3, rv, ev, q3⟩ := I2.after hq'
      subst ev
      exact ⟨rv, ⟨V.ref (s.heap.objs.size + 1), H', I3, rfl, q3⟩⟩
    | next => exact False.elim hq'
    | brk => exact False.elim hq'
    | cont => exact False.elim hq'
theorem pe_makeZ (M : Mk X.K C f) (F : FnOk X.prog X.w X.K X.mg X.base CX k f fd ps sp) (hr : Room (k + 1) X.A) (hg : Gl X x) (hm : X.mg x = some (.ref C)) (hb : Binds X.K fd ps []) (hx : ∀ σ, PassesAt CX X σ (E σ))
    (ha : PA X (e :: es) t) (hdb : (x == ("__debug__" : Str)) = false := by decide) (he : starEach (e :: es) X.env = (false, eval e X.env) :: starEach es X.env := by rfl) (hpl : (backTo pos (starEach es X.env)).any (·.1) = false := by rfl) :
    PE X (.Call (.Name x p) (e :: es) [] pos) (tMakeZ C sp E t) := by
  refine ⟨fun pins s σ H Q I h => ?_⟩
  refine wpAny_Call_Name_kw (ld_glob I hg hm ?_ hdb)
  refine PySem.W.callWith_K (h₀ := X.base) I.ok.mod.kin M.kp (thn (ha.run pos pins s σ H _ I h) fun us s1 ⟨vs, H1, I1, r, q⟩ => ⟨I1.kIn, ?_⟩) he hpl
  exact run_makeZ M F hr hb (hx σ) I1 r q
theorem pe_make0Z (M : Mk X.K C f) (F : FnOk X.prog X.w X.K X.mg X.base CX k f fd ps sp) (hr : Room (k + 1) X.A) (hg : Gl X x) (hm : X.mg x = some (.ref C)) (hb : Binds X.K fd ps []) (hx : ∀ σ, PassesAt CX X σ (E σ))
    (hdb : (x == ("__debug__" : Str)) = false := by decide) : PE X (.Call (.Name x p) [] [] pos) (tMakeZ C sp E tNil) := by
  refine ⟨fun pins s σ H Q I h => ?_⟩
  refine wpAny_Call_Name_kw (ld_glob I hg hm ?_ hdb)
  exact PySem.W.callWith_K0 I.kIn M.kp (run_makeZ (us := []) M F hr hb (hx σ) I .nil h)
/-- a statement that is never come to -/
def zNever : TS := fun _ _ _ => False
theorem ps_zNever {st : Stmt} : PS X st zNever := ⟨fun _ _ _ _ _ _ h => h.elim⟩
end
theorem lk_eq {f : Str} {v : V} {r : List (Str × V)} : List.lookup f ((f, v) :: r) = some v := by simp [List.lookup]
theorem lk_ne {f g : Str} {v : V} {r : List (Str × V)} (h : ¬ f = g) : List.lookup f ((g, v) :: r) = List.lookup f r := by
  have : (f == g) = false := by simpa using h
  simp [List.lookup, this]
theorem pu_eq {f : Str} {y v : V} {r : List (Str × V)} : putF f y ((f, v) :: r) = (f, y) :: r := if_pos rfl
theorem pu_ne {f g : Str} {y v : V} {r : List (Str × V)} (h : ¬ g = f) : putF f y ((g, v) :: r) = (g, v) :: putF f y r := if_neg h
theorem pu_nil {f : Str} {y : V} : putF f y [] = [(f, y)] := rfl

/-! ### own exceptions -/
section
open PySem.Calls
variable {X : Cx} {e : Expr} {es : List Expr} {ta : TA} {p1 p2 pos : Pos} {D : Addr} {n : Str}
/-- D.__init__(self, ..), D an own class over ValueError without an __init__ of its own -/
theorem pe_cinit {pl : Sem Bool} (hg : Gl X n) (hm : X.mg n = some (.ref D)) (hr : PySem.W.readsIn X.K D (.type "type") = true) (hs : PySem.W.specialIn X.K (.ref D) "__getattribute__" = some (some (.builtin "type.__getattribute__")))
    (hv : PySem.W.findCls X.K (.ref D) (.type "type") "__init__" = some (.val (.builtin "ValueError.__init__"))) (ha : PA X (e :: es) ta) (hdb : (n == ("__debug__" : Str)) = false := by decide)
    (hc : eval (.Call (.Attribute (.Name n p1) "__init__" p2) (e :: es) [] pos) X.env = (do
      let ov ← eval (.Name n p1) X.env
      standAt p2.atName
      let (f, first) ← holding [ov] (getMethod ov "__init__" pl)
      callWith pos f first (backTo pos (starEach (e :: es) X.env)) (backToKw pos (keywordEach [] X.env))) := by rfl)
    (he : starEach (e :: es) X.env = (false, eval e X.env) :: starEach es X.env := by rfl) (hpl : (backTo pos (starEach es X.env)).any (·.1) = false := by rfl) :
    PE X (.Call (.Attribute (.Name n p1) "__init__" p2) (e :: es) [] pos) (tVeI X.K ta) := by
  refine ⟨fun pins s σ H Q I h => ?_⟩
  refine PySem.W.methodCall_KW (ld_glob I hg hm ?_ hdb) hc
  refine PySem.W.method_cls I.kIn hs (PySem.W.cls_value I.kIn hr hv (by decide +kernel) ?_)
  show wpAny _ _ (callWith pos (Value.builtin "ValueError.__init__") [] (backTo pos (starEach (e :: es) X.env)) []) _ _ _
  refine PyProof.Rows.callWith_method1 (thn (ha.run pos pins _ σ H _ (I.tok _) h) fun us s1 ⟨vs, H1, I1, r1, a, C, ws, ev, hl, T, ea, q⟩ => ?_) he hpl
  subst ev
  cases r1 with
  | @cons _ u0 _ ur ra rw' =>
    obtain rfl : u0 = Value.ref a := ra
    have hlen : ur.length ≤ sizeLine := by
      rw [← Paired.length rw', sizeLine_eq]
      omega
    exact oinit_ok T I1 ea hlen fun s' J => ⟨.non, H1, J, rfl, q⟩
/-- raise C(..) with an __init__ of its own -/
def sRaiseO (C : Addr) (sp : Sp) (W : WX) (ta : TA) : TS := fun _ σ H => tMkO C sp [] ta σ H fun cls d H' => W cls d σ H'
theorem ps_raiseO {CX : CXT} {W : WX} {x : Str} {C fI : Addr} {k : Nat} {fd : FuncData} {ps : List Str} {sp : Sp} {p pos' : Pos} (hcalm : X.calm = true) (tk : Takes X W) (T : OexC X.K C) (iC : PySem.W.findIn X.K (.ref C) "__init__" = some (some (.ref fI))) (tI : PySem.W.typeIn X.K (.ref fI) = some (.type "function"))
    (F1 : FnOk X.prog X.w X.K X.mg X.base CX k fI fd ps sp) (hr : Room (k + 1) X.A) (hb : Binds X.K fd ps []) (hx : Passes CX X (fun _ _ _ => False)) (hg : Gl X x) (hm : X.mg x = some (.ref C)) (ha : PA X (e :: es) ta)
    (hdb : (x == ("__debug__" : Str)) = false := by decide) (he : starEach (e :: es) X.env = (false, eval e X.env) :: starEach es X.env := by rfl) (hpl : (backTo pos (starEach es X.env)).any (·.1) = false := by rfl) :
    PS X (.Raise (some (.Call (.Name x p) (e :: es) [] pos)) none pos') (sRaiseO C sp W ta) :=
  ps_raise hcalm tk (pmk_oex T iC tI F1 hr hb .nil hx hg hm ha hdb he hpl)
theorem passF {X : Cx} : Passes (L2.CX X.prog X.w) X (fun _ _ _ => False) := fun pins σ H s e s' I c => passL pins σ H s e s' I c
/-- an error of the class at S: does «except C» name it -/
theorem exm_mk {K : PySem.W.Frag} {S C : Addr} {b : Bool} (h1 : PySem.W.subIn K (.ref C) (.type "BaseException") = some true) (h2 : PySem.W.isClsIn K C = true) (h3 : PySem.W.typeIn K (.ref C) = some (.type "type")) (h4 : PySem.W.subIn K (.ref S) (.ref C) = some b) :
    PySem.W.exmOne K (.ref S) (.ref C) = some b := by
  have e1 : (PySem.W.subIn K (.ref C) (.type "BaseException") == some true) = true := by rw [h1] <;> rfl
  have e2 : ((PySem.W.clsIn K C).isSome && PySem.W.typeIn K (.ref C) == some (.type "type")) = true := by
    have h2' : (PySem.W.clsIn K C).isSome = true := h2
    rw [h2', h3] <;> rfl
  show (if (PySem.W.subIn K (.ref C) (.type "BaseException") == some true) = true then (if ((PySem.W.clsIn K C).isSome && PySem.W.typeIn K (.ref C) == some (.type "type")) = true then PySem.W.subIn K (.ref S) (.ref C) else none) else none) = some b
  rw [if_pos e1, if_pos e2]
  exact h4
def sTryOnly (K : PySem.W.Frag) (c : Value) (tb : WX → TS) (ts : Addr → Value → Option Addr → TS) (W : WX) : TS := fun D σ H => tb (wOnly K c ts W D) D σ H
/-- raise C('m'), C without an __init__ of its own -/
def sRaiseN (C : Addr) (W : WX) : TS := fun _ σ H => W (.ref C) none σ H
/-- try: .. except x as n: .. -/
def sTryAs (K : PySem.W.Frag) (c : Value) (i : Nat) (tb : WX → TS) (ts : Addr → Value → Option Addr → TS) (W : WX) : TS := fun D σ H => tb (wAs K c i ts W D) D σ H
end
def zPutF (K : PySem.W.Frag) (x : V) (f : Str) (y : V) (H : Hp) (N : Hp → Prop) : Prop := ∃ a C dx fs, x = .ref a ∧ H a = some (.ins C dx fs) ∧ Cls K C ∧ NoAttr K C f ∧ fs.length < 1000 ∧ N (upd H a (.ins C dx (putF f y fs)))
def zMade (C : Addr) (H : Hp) (sp : V → Hp → Prop) : Prop := ∀ x dx, H x = none → H dx = none → dx ≠ x → sp (.ref x) (upd (upd H dx (.own x)) x (.ins C dx []))
/-! ### parts of readings by name -/
def zB (x : V) (H : Hp) (Q : Bool → Hp → Prop) : Prop := ∃ k, x = .bl k ∧ Q k H
def zTup (xs : List V) (H : Hp) (Q : VK) : Prop := xs.length ≤ sizeLine ∧ ∀ p, H p = none → Q (.ref p) (upd H p (.tup xs))
def zLst (xs : List V) (H : Hp) (Q : VK) : Prop := xs.length ≤ sizeLine ∧ ∀ p, H p = none → Q (.ref p) (upd H p (.lst xs))
def zIf (k : Bool) (A B : Prop) : Prop := if k = true then A else B
def zDGet (x y : V) (H : Hp) (Q : VK) : Prop := ∃ a v, x = .ref a ∧ DGet H a y (some v) ∧ Q v H
def zDIn (y x : V) (H : Hp) (Q : VK) : Prop := ∃ a o, x = .ref a ∧ DGet H a y o ∧ Q (.bl o.isSome) H
def zDNotIn (y x : V) (H : Hp) (Q : VK) : Prop := ∃ a o, x = .ref a ∧ DGet H a y o ∧ Q (.bl (!o.isSome)) H
def zDPut (x y v : V) (H : Hp) (N : Hp → Prop) : Prop := ∃ a H4, x = .ref a ∧ DPut H a y v H4 ∧ N H4
def zFld (K : PySem.W.Frag) (x : V) (f : Str) (H : Hp) (Q : VK) : Prop := ∃ a C dx fs v, x = .ref a ∧ H a = some (.ins C dx fs) ∧ Cls K C ∧ NoAttr K C f ∧ fs.lookup f = some v ∧ Q v H
def zTy (K : PySem.W.Frag) (T : String) (x : V) (H : Hp) (N : Prop) : Prop := tyV K T x H ∧ N
def zGTup (K : PySem.W.Frag) (n : Nat) (t : TGs) (v : V) (σ : L2.St) (H : Hp) (Q : L2.St → Hp → Prop) : Prop := ∃ a xs, v = .ref a ∧ (SqT K H a xs ∨ SqL K H a xs) ∧ xs.length = n ∧ t xs σ H Q

section
variable {K : PySem.W.Frag} {σ : L2.St} {H : Hp} {Q : VK} {QB : Bool → Hp → Prop} {QA : List V → Hp → Prop} {N b c : L2.St → Hp → Prop} {r : VK} {ta tb tc te : TE} {t u : TT} {tt tu : TS} {tA : TA} {g : TG} {v w x y : V} {i j : Int} {n : Nat} {p q a : Addr} {xs ys : List V} {rr rr' : R2} {k : Bool} {A B : Prop}

/-! ### statements -/
theorem s_seq (h : tt ⟨tu ⟨N, r, b, c⟩, r, b, c⟩ σ H) : tSeq tt tu ⟨N, r, b, c⟩ σ H := h
theorem s_cut (Mid : L2.St → Hp → Prop) (h1 : tt ⟨Mid, r, b, c⟩ σ H) (h2 : ∀ σ' H', Mid σ' H' → tu ⟨N, r, b, c⟩ σ' H') : C8.tCut tt tu ⟨N, r, b, c⟩ σ H := ⟨Mid, h1, h2⟩
theorem s_next (h : N σ H) : tNext ⟨N, r, b, c⟩ σ H := h
theorem s_break (h : b σ H) : tBreak ⟨N, r, b, c⟩ σ H := h
theorem s_cont (h : c σ H) : tCont ⟨N, r, b, c⟩ σ H := h
theorem s_ret (h : te σ H r) : tRet te ⟨N, r, b, c⟩ σ H := h
theorem s_retN (h : r .non H) : tRetN ⟨N, r, b, c⟩ σ H := h
theorem s_drop (h : te σ H fun _ H1 => N σ H1) : tDrop te ⟨N, r, b, c⟩ σ H := h
theorem s_set (h : te σ H fun v H1 => N (σ.set n (some v)) H1) : tAsg te (gName n) ⟨N, r, b, c⟩ σ H := h
theorem s_asg (h : te σ H fun v H1 => g v σ H1 N) : tAsg te g ⟨N, r, b, c⟩ σ H := h
theorem s_if (h : t σ H fun k H1 => zIf k (tt ⟨N, r, b, c⟩ σ H1) (tu ⟨N, r, b, c⟩ σ H1)) : tIfS t tt tu ⟨N, r, b, c⟩ σ H := h
theorem s_dput {td ty tv : TE} (h : tv σ H fun v H1 => td σ H1 fun x H2 => ty σ H2 fun y H3 => zDPut x y v H3 fun H4 => N σ H4) : sDPut td ty tv ⟨N, r, b, c⟩ σ H := h
/-! ### targets -/
theorem s_gname {NN : L2.St → Hp → Prop} (h : NN (σ.set n (some v)) H) : gName n v σ H NN := h
theorem s_gsub {to ti : TE} {ts : TSet} {NN : L2.St → Hp → Prop} (h : to σ H fun o H1 => ti σ H1 fun i H2 => ts o i v H2 fun H3 => NN σ H3) : gSub to ti ts v σ H NN := h
theorem s_gtup {tg : TGs} {NN : L2.St → Hp → Prop} (hs : SqT K H a xs) (hl : xs.length = n) (h : tg xs σ H NN) : gTup K n tg (.ref a) σ H NN := ⟨a, xs, rfl, hs, hl, h⟩
theorem s_gnil {NN : L2.St → Hp → Prop} (h : NN σ H) : gNil [] σ H NN := ⟨rfl, h⟩
theorem s_gcons {t1 : TG} {t2 : TGs} {NN : L2.St → Hp → Prop} (h : t1 v σ H fun σ' H' => t2 xs σ' H' NN) : gCons t1 t2 (v :: xs) σ H NN := ⟨v, xs, rfl, h⟩
/-! ### expressions -/
theorem s_var (h : σ[n]? = some (some v)) (q : Q v H) : tVar n σ H Q := ⟨v, h, q⟩
theorem s_c (q : Q v H) : tC v σ H Q := q
theorem s_op (h : ta σ H fun x H1 => tb σ H1 fun y H2 => rr x y H2 Q) : tOp rr ta tb σ H Q := h
theorem s_un {ru : V → Hp → VK → Prop} (h : ta σ H fun x H1 => ru x H1 Q) : tUn ru ta σ H Q := h
theorem s_cb {rc : List V → Hp → VK → Prop} (h : tA σ H fun vs H1 => rc vs H1 Q) : tCB rc tA σ H Q := h
theorem s_nil (h : QA [] H) : tNil σ H QA := h
theorem s_cons {tr : TA} (h : ta σ H fun x H1 => tr σ H1 fun xs H2 => QA (x :: xs) H2) : tCons ta tr σ H QA := h
theorem s_call {sp : Sp} {E : XK} (h : tA σ H fun vs H1 => sp vs H1 Q E) : tCall sp [] E tA σ H Q := by
  show tA σ H fun vs H1 => sp (vs ++ []) H1 Q E
  simp only [List.append_nil]
  exact h
theorem s_tup (h : tA σ H fun xs H1 => zTup xs H1 Q) : tTup tA σ H Q := h
theorem s_lst (h : tA σ H fun xs H1 => zLst xs H1 Q) : tLst tA σ H Q := h
theorem s_ztup (h : Nat.ble xs.length sizeLine = true) (h2 : ∀ p, H p = none → Q (.ref p) (upd H p (.tup xs))) : zTup xs H Q := ⟨Nat.le_of_ble_eq_true h, h2⟩
theorem s_zlst (h : Nat.ble xs.length sizeLine = true) (h2 : ∀ p, H p = none → Q (.ref p) (upd H p (.lst xs))) : zLst xs H Q := ⟨Nat.le_of_ble_eq_true h, h2⟩
theorem s_test (h : te σ H fun x H1 => zB x H1 QB) : tTest te σ H QB := h
theorem s_B (h : te σ H fun x H1 => zB x H1 QB) : tB te σ H QB := h
theorem s_zB (h : QB k H) : zB (.bl k) H QB := ⟨k, rfl, h⟩
theorem s_and (h : t σ H fun k H1 => zIf k (u σ H1 QB) (QB false H1)) : tAnd t u σ H QB := h
theorem s_or (h : t σ H fun k H1 => zIf k (QB true H1) (u σ H1 QB)) : tOr t u σ H QB := h
theorem s_not (h : t σ H fun k H1 => QB (!k) H1) : tNot t σ H QB := h
theorem s_chain (h : ta σ H fun x H1 => tb σ H1 fun y H2 => rr x y H2 fun z H3 => zB z H3 fun k H3 => zIf k (tc σ H3 fun w H4 => rr' y w H4 Q) (Q (.bl false) H3)) : tChain rr rr' ta tb tc σ H Q := h
theorem s_ifE (h : t σ H fun k H1 => zIf k (ta σ H1 Q) (tb σ H1 Q)) : tIf t ta tb σ H Q := h
theorem s_bm {T : String} {rm : V → List V → Hp → VK → Prop} (h : ta σ H fun x H1 => zTy K T x H1 (tA σ H1 fun xs H2 => rm x xs H2 Q)) : tBM K T rm ta tA σ H Q := h
theorem s_bm0 {T : String} {rm : V → List V → Hp → VK → Prop} (h : ta σ H fun x H1 => zTy K T x H1 (rm x [] H1 Q)) : tBM0 K T rm ta σ H Q := h
theorem s_fld {f : Str} (h : ta σ H fun x H1 => zFld K x f H1 Q) : tFld K ta f σ H Q := h
theorem s_meth {C : Addr} {m : Str} {sp : Sp} {W : WX} (h : ta σ H fun x H1 => zSelf C m x H1 (tA σ H1 fun vs H2 => sp (x :: vs) H2 Q (WE W σ))) : tMethZ C m sp (WE W) ta tA σ H Q := h
theorem s_zself {C dx : Addr} {m : Str} {fs : List (Str × V)} {N1 : Prop} (h1 : H p = some (.ins C dx fs)) (h2 : fs.lookup m = none) (h : N1) : zSelf C m (.ref p) H N1 := ⟨p, dx, fs, rfl, h1, h2, h⟩
theorem s_make {C : Addr} {sp : Sp} {W : WX} (h : tA σ H fun vs H1 => zMade C H1 fun x H2 => sp (x :: vs) H2 (fun v H2 => v = .non ∧ Q x H2) (WE W σ)) : tMakeZ C sp (WE W) tA σ H Q := h
theorem s_fldset {f : Str} (h : tb σ H fun y H1 => ta σ H1 fun x H2 => zPutF K x f y H2 fun H3 => N σ H3) : sFld K ta tb f ⟨N, r, b, c⟩ σ H := h
theorem s_zputF {C dx : Addr} {fs : List (Str × V)} {f : Str} {N1 : Hp → Prop} (h1 : H p = some (.ins C dx fs)) (hc : Cls K C) (hn : NoAttr K C f) (hl : fs.length < 1000) (h : N1 (upd H p (.ins C dx (putF f y fs)))) : zPutF K (.ref p) f y H N1 := ⟨p, C, dx, fs, rfl, h1, hc, hn, hl, h⟩
def zRev (K : PySem.W.Frag) (x : V) (H : Hp) (Q : VK) : Prop := ∃ a xs, x = .ref a ∧ SqL K H a xs ∧ ∀ p, H p = none → Q (.ref p) (upd H p (.lst xs.reverse))
theorem s_rev (h : ta σ H fun x H1 => zRev K x H1 Q) : tRevL K ta σ H Q := h
theorem s_zrev (h1 : SqL K H p xs) (h : ∀ a, H a = none → Q (.ref a) (upd H a (.lst xs.reverse))) : zRev K (.ref p) H Q := ⟨p, xs, rfl, h1, h⟩
theorem s_pop {z : V} (h1 : H p = some (.lst xs)) (h2 : xs[xs.length - 1]? = some z) (h : Q z (upd H p (.lst xs.dropLast))) : rPop (.ref p) [] H Q := ⟨p, xs, z, rfl, rfl, h1, h2, h⟩
theorem s_reverse (h1 : H p = some (.lst xs)) (h : Q .non (upd H p (.lst xs.reverse))) : rReverse (.ref p) [] H Q := ⟨p, xs, rfl, rfl, h1, h⟩
def zMkO (C : Addr) (sp : Sp) (vs : List V) (H1 : Hp) (Q : XK) : Prop := vs.length ≤ 1000 ∧ ∀ a, H1 a = none → sp (.ref a :: (vs ++ [])) (upd H1 a (exo a C none))
  (fun v H2 => v = .non ∧ ∃ (d : Addr) (fs : List (Str × V)), H2 a = some (exo a C (some d)) ∧ H2 d = some (exd d fs) ∧ H1 d = none ∧ Q (.ref C) (some d) (upd (del H2 a) d (.xd fs))) (fun _ _ _ => False)
theorem s_raiseO {C : Addr} {sp : Sp} {W : WX} (h : tA σ H fun vs H1 => zMkO C sp vs H1 fun cls d H' => W cls d σ H') : sRaiseO C sp W tA ⟨N, r, b, c⟩ σ H := h
theorem s_tryAs {i : Nat} {cc : Value} {tbw : WX → TS} {ts : Addr → Value → Option Addr → TS} {W : WX} (h : tbw (wAs K cc i ts W ⟨N, r, b, c⟩) ⟨N, r, b, c⟩ σ H) : sTryAs K cc i tbw ts W ⟨N, r, b, c⟩ σ H := h
theorem s_raiseN {C : Addr} {W : WX} (h : W (.ref C) none σ H) : sRaiseN C W ⟨N, r, b, c⟩ σ H := h
theorem s_tryOnly {cc : Value} {tbw : WX → TS} {ts : Addr → Value → Option Addr → TS} {W : WX} (h : tbw (wOnly K cc ts W ⟨N, r, b, c⟩) ⟨N, r, b, c⟩ σ H) : sTryOnly K cc tbw ts W ⟨N, r, b, c⟩ σ H := h
theorem s_all {bs : List Bool} (h1 : SqL K H p (bs.map V.bl)) (h : Q (.bl (bs.all id)) H) : rAll K [.ref p] H Q := ⟨p, bs, rfl, h1, h⟩
def zVeI (K : PySem.W.Frag) (vs : List V) (H1 : Hp) (Q : VK) : Prop := ∃ (a C : Addr) (ws : List V), vs = .ref a :: ws ∧ ws.length ≤ 1000 ∧ OexC K C ∧ H1 a = some (exo a C none) ∧ Q .non H1
theorem s_vei (h : tA σ H fun vs H1 => zVeI K vs H1 Q) : tVeI K tA σ H Q := h
def zOst (K : PySem.W.Frag) (f : Str) (x y : V) (H2 : Hp) (NN : Hp → Prop) : Prop := ∃ a C : Addr, x = .ref a ∧ OexC K C ∧ PySem.W.findIn K (.ref C) f = some none ∧
  ((H2 a = some (exo a C none) ∧ ∀ dx, H2 dx = none → dx ≠ a → NN (upd (upd H2 dx (exd dx [(f, y)])) a (exo a C (some dx)))) ∨
    ∃ (dx : Addr) (fs : List (Str × V)), H2 a = some (exo a C (some dx)) ∧ H2 dx = some (exd dx fs) ∧ fs.length ≤ 900 ∧ NN (upd H2 dx (exd dx ((f, y) :: fs))))
theorem s_ost {f : Str} (h : tb σ H fun y H1 => ta σ H1 fun x H2 => zOst K f x y H2 fun H3 => N σ H3) : tOst K f ta tb ⟨N, r, b, c⟩ σ H := h
def zXf (a : Addr) (cls : Value) (d : Option Addr) (C : Addr) (f : Str) (x : V) (H1 : Hp) (Q : VK) : Prop := x = .ref a ∧ cls = .ref C ∧ ∃ (dd : Addr) (fs : List (Str × V)) (v : V), d = some dd ∧ H1 dd = some (.xd fs) ∧ fs.lookup f = some v ∧ Q v H1
theorem s_xf {cls : Value} {d : Option Addr} {C : Addr} {f : Str} (h : te σ H fun x H1 => zXf a cls d C f x H1 Q) : tXf a cls d C f te σ H Q := h
theorem s_rep (h1 : H p = some (.lst xs)) (h2 : -(2 ^ 63) ≤ i ∧ i < 2 ^ 63) (h3 : xs.length * i.toNat ≤ sizeLine) (h : ∀ a, H a = none → Q (.ref a) (upd H a (.lst (List.replicate i.toNat xs).flatten))) : rRep (.ref p) (.int i) H Q := ⟨p, i, xs, rfl, rfl, h1, h2.1, h2.2, h3, h⟩
theorem s_dget2 {td ty tx : TE} (h : td σ H fun x H1 => ∃ a, x = .ref a ∧ IsD H1 a ∧ ty σ H1 fun y H2 => tx σ H2 fun z H3 => ∃ o, DGet H3 a y o ∧ Q (o.getD z) H3) : tDGet2 td ty tx σ H Q := h
theorem s_dget {td ty : TE} (h : td σ H fun x H1 => ty σ H1 fun y H2 => zDGet x y H2 Q) : tDGet td ty σ H Q := h
theorem s_din {td ty : TE} (h : ty σ H fun y H1 => td σ H1 fun x H2 => zDIn y x H2 Q) : tDIn ty td σ H Q := h
theorem s_dnotin {td ty : TE} (h : ty σ H fun y H1 => td σ H1 fun x H2 => zDNotIn y x H2 Q) : tDNotIn ty td σ H Q := h
theorem s_dnew (h : ∀ p, H p = none → Q (.ref p) (upd H p (.dK []))) : tDNewK σ H Q := h
theorem s_disp {trs : List (TE × TE)} (h : ∀ p, H p = none → tPairs trs σ (upd H p (.dK [])) fun ps H2 => H2 p = some (.dK []) ∧ ∃ kvs : List (Key × V), ps = kvs.map (fun kv => (kV kv.1, kv.2)) ∧ kvs.length ≤ 15 ∧ Q (.ref p) (upd H2 p (.dK (mergeK [] kvs)))) : tDisp trs σ H Q := h
theorem s_pnil {QP : List (V × V) → Hp → Prop} (h : QP [] H) : tPairs [] σ H QP := h
theorem s_pcons {tk tv : TE} {trs : List (TE × TE)} {QP : List (V × V) → Hp → Prop} (h : tk σ H fun x H1 => tv σ H1 fun y H2 => tPairs trs σ H2 fun ps H3 => QP ((x, y) :: ps) H3) : tPairs ((tk, tv) :: trs) σ H QP := h
theorem s_andV (h : ta σ H fun x H1 => zB x H1 fun k H1 => zIf k (tb σ H1 Q) (Q (.bl false) H1)) : tAndV ta tb σ H Q := h
theorem s_orV (h : ta σ H fun x H1 => zB x H1 fun k H1 => zIf k (Q (.bl true) H1) (tb σ H1 Q)) : tOrV ta tb σ H Q := h
theorem s_notV (h : ta σ H fun x H1 => zB x H1 fun k H1 => Q (.bl (!k)) H1) : tNotV ta σ H Q := h
/-! ### by values -/
theorem s_rI0 {gg : Int → Int → V} (h : Q (gg i j) H) : rI0 gg (.int i) (.int j) H Q := ⟨i, j, rfl, rfl, h⟩
theorem s_rU {gg : Int → V} (h : Q (gg i) H) : rU gg (.int i) H Q := ⟨i, rfl, h⟩
theorem s_fdv (h0 : j ≠ 0 ∧ j.natAbs.log2 < 9000) (h : Q (.int (i.fdiv j)) H) : rFdv (.int i) (.int j) H Q := ⟨i, j, rfl, rfl, h0, h⟩
theorem s_mod (h0 : j ≠ 0) (h : Q (.int (i.fmod j)) H) : rMod (.int i) (.int j) H Q := ⟨i, j, rfl, rfl, h0, h⟩
theorem s_fdvp (h0 : 0 < j ∧ j < 2 ^ 64) (h : Q (.int (i / j)) H) : rFdv (.int i) (.int j) H Q := ⟨i, j, rfl, rfl, ⟨by omega, Nat.lt_of_lt_of_le (PySem.Flt.log2_lt_of (k := 64) (by decide) (by omega)) (by decide)⟩, by
  show Q (.int (i.fdiv j)) H
  rw [Int.fdiv_eq_ediv_of_nonneg i (by omega)]; exact h⟩
theorem s_modp (h0 : 0 < j) (h : Q (.int (i % j)) H) : rMod (.int i) (.int j) H Q := ⟨i, j, rfl, rfl, by omega, by
  show Q (.int (i.fmod j)) H
  rw [Int.fmod_eq_emod_of_nonneg i (by omega)]; exact h⟩
theorem s_mulp (h0 : (-18446744073709551616 < i ∧ i < 18446744073709551616) ∨ (-18446744073709551616 < j ∧ j < 18446744073709551616)) (h : Q (.int (i * j)) H) : rMul (.int i) (.int j) H Q := ⟨i, j, rfl, rfl, .inl h0, h⟩
theorem s_mul (h0 : CMul i j ∨ CMulW i j) (h : Q (.int (i * j)) H) : rMul (.int i) (.int j) H Q := ⟨i, j, rfl, rfl, h0, h⟩
theorem s_add_i (h : Q (.int (i + j)) H) : rAddU K (.int i) (.int j) H Q := .inl ⟨i, j, rfl, rfl, h⟩
theorem s_add_s {z w : Str} (h0 : z.length + w.length ≤ sizeLine) (h : Q (.str (z ++ w)) H) : rAddU K (.str z) (.str w) H Q := .inr (.inl ⟨z, w, rfl, rfl, h0, h⟩)
theorem s_add_l (h1 : H p = some (.lst xs)) (h2 : H q = some (.lst ys)) (h0 : xs.length + ys.length ≤ sizeLine) (h : ∀ a, H a = none → Q (.ref a) (upd H a (.lst (xs ++ ys)))) : rAddU K (.ref p) (.ref q) H Q := .inr (.inr (.inl ⟨p, q, xs, ys, rfl, rfl, h1, h2, h0, h⟩))
theorem s_add_t (h1 : SqT K H p xs) (h2 : SqT K H q ys) (hx : xs ≠ []) (hy : ys ≠ []) (h0 : xs.length + ys.length ≤ sizeLine) (h : ∀ a, H a = none → Q (.ref a) (upd H a (.tup (xs ++ ys)))) : rAddU K (.ref p) (.ref q) H Q := .inr (.inr (.inr ⟨p, q, xs, ys, rfl, rfl, h1, h2, h0, fun e => absurd e hx, fun _ e => absurd e hy, fun _ _ => h⟩))
theorem s_add_tl (h1 : SqT K H p []) (h2 : SqT K H q ys) (h0 : ys.length ≤ sizeLine) (h : Q (.ref q) H) : rAddU K (.ref p) (.ref q) H Q := .inr (.inr (.inr ⟨p, q, [], ys, rfl, rfl, h1, h2, by simpa using h0, fun _ => h, fun e => absurd rfl e, fun e => absurd rfl e⟩))
theorem s_add_tr (h1 : SqT K H p xs) (h2 : SqT K H q []) (hx : xs ≠ []) (h0 : xs.length ≤ sizeLine) (h : Q (.ref p) H) : rAddU K (.ref p) (.ref q) H Q := .inr (.inr (.inr ⟨p, q, xs, [], rfl, rfl, h1, h2, by simpa using h0, fun e => absurd e hx, fun _ _ => h, fun _ e => absurd rfl e⟩))
theorem s_eq_i (h : Q (.bl (decide (i = j))) H) : rEqU K (.int i) (.int j) H Q := .inl ⟨rfl, by rw [show decide (V.int i = V.int j) = decide (i = j) by simp]; exact h⟩
theorem s_ne_i (h : Q (.bl (!decide (i = j))) H) : rNeU K (.int i) (.int j) H Q := .inl ⟨rfl, by rw [show decide (V.int i = V.int j) = decide (i = j) by simp]; exact h⟩
theorem s_eq_s {z w : Str} (h : Q (.bl (decide (z = w))) H) : rEqU K (.str z) (.str w) H Q := .inl ⟨rfl, by rw [show decide (V.str z = V.str w) = decide (z = w) by simp]; exact h⟩
theorem s_ne_s {z w : Str} (h : Q (.bl (!decide (z = w))) H) : rNeU K (.str z) (.str w) H Q := .inl ⟨rfl, by rw [show decide (V.str z = V.str w) = decide (z = w) by simp]; exact h⟩
theorem s_eq_v (h0 : scal x y = true) (h : Q (.bl (decide (x = y))) H) : rEqU K x y H Q := .inl ⟨h0, h⟩
theorem s_ne_v (h0 : scal x y = true) (h : Q (.bl (!decide (x = y))) H) : rNeU K x y H Q := .inl ⟨h0, h⟩
theorem s_eq_d {d e : PyData} (h1 : Dp K H x d) (h2 : Dp K H y e) (h3 : SeqAt.shaped d = true) (h4 : SeqAt.shaped e = true) (h : Q (.bl (PyData.eqv d e)) H) : rEqU K x y H Q := .inr (.inl ⟨d, e, h1, h2, h3, h4, h⟩)
theorem s_ne_d {d e : PyData} (h1 : Dp K H x d) (h2 : Dp K H y e) (h3 : SeqAt.shaped d = true) (h4 : SeqAt.shaped e = true) (h : Q (.bl (!PyData.eqv d e)) H) : rNeU K x y H Q := .inr (.inl ⟨d, e, h1, h2, h3, h4, h⟩)
theorem s_eq_len (h1 : H p = some (.lst xs)) (h2 : H q = some (.lst ys)) (hn : xs.length ≠ ys.length) (h : Q (.bl false) H) : rEqU K (.ref p) (.ref q) H Q := .inr (.inr ⟨p, q, xs, ys, rfl, rfl, h1, h2, hn, h⟩)
theorem s_ne_len (h1 : H p = some (.lst xs)) (h2 : H q = some (.lst ys)) (hn : xs.length ≠ ys.length) (h : Q (.bl true) H) : rNeU K (.ref p) (.ref q) H Q := .inr (.inr ⟨p, q, xs, ys, rfl, rfl, h1, h2, hn, h⟩)
theorem s_ix_l (h1 : SqL K H p xs) (h2 : atI xs i = some v) (h : Q v H) : rIx K (.ref p) (.int i) H Q := .inl ⟨p, xs, i, v, rfl, rfl, h1, h2, h⟩
theorem s_ix_t (h1 : SqT K H p xs) (h2 : atI xs i = some v) (h : Q v H) : rIx K (.ref p) (.int i) H Q := .inr (.inl ⟨p, xs, i, v, rfl, rfl, h1, h2, h⟩)
theorem s_ix_s {z : Str} {cc : Nat} (h1 : z.length ≤ sizeLine) (h2 : atI z.cps.toList i = some cc) (h : Q (.str ⟨#[cc]⟩) H) : rIx K (.str z) (.int i) H Q := .inr (.inr ⟨z, i, cc, rfl, rfl, h1, h2, h⟩)
theorem s_setL {N1 : Hp → Prop} (h1 : H p = some (.lst xs)) (h2 : ixN xs.length i = some n) (h : N1 (upd H p (.lst (xs.set n v)))) : rSetL (.ref p) (.int i) v H N1 := ⟨p, xs, i, n, rfl, rfl, h1, h2, h⟩
theorem s_len_l (h1 : SqL K H p xs) (h : Q (.int xs.length) H) : rLen K [.ref p] H Q := ⟨_, xs.length, rfl, .inl ⟨xs, h1, rfl⟩, h⟩
theorem s_len_t (h1 : SqT K H p xs) (h : Q (.int xs.length) H) : rLen K [.ref p] H Q := ⟨_, xs.length, rfl, .inr ⟨xs, h1, rfl⟩, h⟩
theorem s_len_s {z : Str} (h1 : z.length ≤ sizeLine) (h : Q (.int z.length) H) : rLen K [.str z] H Q := ⟨_, z.length, rfl, ⟨h1, rfl⟩, h⟩
theorem s_min2 (h : Q (.int (if j < i then j else i)) H) : rMin2 [.int i, .int j] H Q := ⟨i, j, rfl, h⟩
theorem s_max2 (h : Q (.int (if j > i then j else i)) H) : rMax2 [.int i, .int j] H Q := ⟨i, j, rfl, h⟩
theorem s_listof_l (h1 : SqL K H p xs) (h : ∀ l, H l = none → Q (.ref l) (upd H l (.lst xs))) : rListOf K [.ref p] H Q := ⟨p, xs, rfl, .inl h1, h⟩
theorem s_listof_t (h1 : SqT K H p xs) (h : ∀ l, H l = none → Q (.ref l) (upd H l (.lst xs))) : rListOf K [.ref p] H Q := ⟨p, xs, rfl, .inr h1, h⟩
theorem s_tupof_l (h1 : SqL K H p xs) (h : ∀ l, H l = none → Q (.ref l) (upd H l (.tup xs))) : rTupOf K [.ref p] H Q := ⟨p, xs, rfl, .inl ⟨h1, h⟩⟩
theorem s_tupof_t (h1 : SqT K H p xs) (h : Q (.ref p) H) : rTupOf K [.ref p] H Q := ⟨p, xs, rfl, .inr ⟨h1, h⟩⟩
theorem s_int1 (h : Q (.int i) H) : rInt1 [.int i] H Q := .inl ⟨i, rfl, h⟩
theorem s_int1b (h : Q (.int (if k then 1 else 0)) H) : rInt1 [.bl k] H Q := .inr ⟨k, rfl, h⟩
theorem s_abs (h : Q (.int (if i < 0 then -i else i)) H) : rAbs [.int i] H Q := ⟨i, rfl, h⟩
theorem s_strI (h0 : i.natAbs.log2 < 1920) (h : Q (.str (toString i)) H) : rStrI [.int i] H Q := ⟨i, rfl, h0, h⟩
theorem s_isi {cc : V} {ty uu : Value} {bb : Bool} (h1 : ClsV cc uu) (h2 : TyX K H x ty) (h3 : PySem.W.kitOne K ty uu = some bb) (h : Q (.bl bb) H) : rIsi2 K [x, cc] H Q := .inl ⟨x, cc, ty, uu, bb, rfl, h1, h2, h3, h⟩
theorem s_isN_i (h : Q (.bl false) H) : rIsNz (.int i) .non H Q := ⟨rfl, by rw [decide_eq_false (by intro z; cases z)]; exact h⟩
theorem s_isN_r (h : Q (.bl false) H) : rIsNz (.ref p) .non H Q := ⟨rfl, by rw [decide_eq_false (by intro z; cases z)]; exact h⟩
theorem s_isN_s {z : Str} (h : Q (.bl false) H) : rIsNz (.str z) .non H Q := ⟨rfl, by rw [decide_eq_false (by intro z; cases z)]; exact h⟩
theorem s_isN_n (h : Q (.bl true) H) : rIsNz .non .non H Q := ⟨rfl, by rw [decide_eq_true rfl]; exact h⟩
theorem s_notN_i (h : Q (.bl true) H) : rNotNz (.int i) .non H Q := ⟨rfl, by rw [decide_eq_false (by intro z; cases z)]; exact h⟩
theorem s_notN_r (h : Q (.bl true) H) : rNotNz (.ref p) .non H Q := ⟨rfl, by rw [decide_eq_false (by intro z; cases z)]; exact h⟩
theorem s_notN_s {z : Str} (h : Q (.bl true) H) : rNotNz (.str z) .non H Q := ⟨rfl, by rw [decide_eq_false (by intro z; cases z)]; exact h⟩
theorem s_notN_n (h : Q (.bl false) H) : rNotNz .non .non H Q := ⟨rfl, by rw [decide_eq_true rfl]; exact h⟩
theorem s_slL {te' : TE} {tl th : TO} {rs : V → Option Int → Option Int → Hp → VK → Prop} (h : te' σ H fun x H1 => tl σ H1 fun l H2 => th σ H2 fun u H3 => rs x l u H3 Q) : tSl rs te' tl th σ H Q := h
theorem s_nopart {QO : Option Int → Hp → Prop} (h : QO none H) : tNoPart σ H QO := h
def zPart (x : V) (H : Hp) (QO : Option Int → Hp → Prop) : Prop := ∃ i, x = .int i ∧ QO (some i) H
theorem s_part {QO : Option Int → Hp → Prop} (h : te σ H fun x H1 => zPart x H1 QO) : tPart te σ H QO := h
theorem s_zpart {QO : Option Int → Hp → Prop} (h : QO (some i) H) : zPart (.int i) H QO := ⟨i, rfl, h⟩
theorem s_cutL {lo hi : Option Int} (h1 : SqL K H a xs) (h : ∀ p, H p = none → Q (.ref p) (upd H p (.lst (cutV xs lo hi)))) : rSlU K (.ref a) lo hi H Q := .inl ⟨a, xs, rfl, h1, h⟩
theorem s_isN (h : Q (.bl (decide (x = .non))) H) : rIsNz x .non H Q := ⟨rfl, h⟩
theorem s_notN (h : Q (.bl (!decide (x = .non))) H) : rNotNz x .non H Q := ⟨rfl, h⟩
theorem s_gun_t {tg : TGs} {NN : L2.St → Hp → Prop} (hs : SqT K H a xs) (hl : xs.length = n) (h : tg xs σ H NN) : gUn K n tg (.ref a) σ H NN := .inl ⟨a, xs, rfl, hs, hl, h⟩
theorem s_gun_l {tg : TGs} {NN : L2.St → Hp → Prop} (hs : SqL K H a xs) (hl : xs.length = n) (h : tg xs σ H NN) : gUn K n tg (.ref a) σ H NN := .inr ⟨a, xs, rfl, hs, hl, h⟩
theorem s_p18 (h : Q (.int 1000000000000000000) H) : rI CPow (fun i j => .int (i ^ j.toNat)) (.int 10) (.int 18) H Q := ⟨10, 18, rfl, rfl, by unfold CPow; decide, h⟩
theorem s_callS {W : WX} {sp : Sp} (h : tA σ H fun vs H1 => sp vs H1 Q (WE W σ)) : tCallS sp (WE W) tA σ H Q := h
theorem s_in_l (h1 : SqL K H p xs) (h2 : flatV x = true) (h3 : xs.all flatV = true) (h : Q (.bl (inV x xs)) H) : rIn K false x (.ref p) H Q := ⟨p, xs, rfl, .inl h1, h2, h3, h⟩
theorem s_in_t (h1 : SqT K H p xs) (h2 : flatV x = true) (h3 : xs.all flatV = true) (h : Q (.bl (inV x xs)) H) : rIn K false x (.ref p) H Q := ⟨p, xs, rfl, .inr h1, h2, h3, h⟩
theorem s_nin_l (h1 : SqL K H p xs) (h2 : flatV x = true) (h3 : xs.all flatV = true) (h : Q (.bl (!inV x xs)) H) : rIn K true x (.ref p) H Q := ⟨p, xs, rfl, .inl h1, h2, h3, h⟩
theorem s_nin_t (h1 : SqT K H p xs) (h2 : flatV x = true) (h3 : xs.all flatV = true) (h : Q (.bl (!inV x xs)) H) : rIn K true x (.ref p) H Q := ⟨p, xs, rfl, .inr h1, h2, h3, h⟩
theorem s_append (h1 : H p = some (.lst xs)) (h2 : xs.length < sizeLine) (h : Q .non (upd H p (.lst (xs ++ [v])))) : rAppend (.ref p) [v] H Q := ⟨p, xs, v, rfl, rfl, h1, h2, h⟩
theorem s_zTyL {N0 : Prop} (h1 : H p = some (.lst xs)) (h : N0) : zTy K "list" (.ref p) H N0 := ⟨.inl ⟨rfl, xs, .inl (.inl h1)⟩, h⟩
theorem s_zTyS {N0 : Prop} {z : Str} (h : N0) : zTy K "str" (.str z) H N0 := ⟨rfl, h⟩
theorem s_zTyL' {N0 : Prop} (h1 : SqL K H p xs) (h : N0) : zTy K "list" (.ref p) H N0 := ⟨.inl ⟨rfl, xs, h1⟩, h⟩
theorem s_join_l {z : Str} {ys : List Str} (h1 : SqL K H p (ys.map V.str)) (h2 : (ys.map (·.length)).sum + ys.length * z.length ≤ 16777216) (h : Q (.str (Txt.join z ys)) H) : rJoin K (.str z) [.ref p] H Q := ⟨z, p, ys, rfl, rfl, .inl h1, h2, h⟩
theorem s_index {y z : V} {j : Nat} (h1 : SqL K H p xs) (h2 : flatV y = true) (h3 : xs.all flatV = true) (h4 : xs[j]? = some z) (h5 : eqV z y = true) (h6 : ∀ (m : Nat) (z' : V), m < j → xs[m]? = some z' → eqV z' y = false) (h : Q (.int (j : Nat)) H) : rIndex K (.ref p) [y] H Q := ⟨p, xs, y, j, z, rfl, rfl, h1, h2, h3, h4, h5, h6, h⟩
theorem s_slS {z : Str} {lo hi : Option Int} (h1 : z.length ≤ sizeLine) (h : Q (.str (cutS z lo hi)) H) : rSlS (.str z) lo hi H Q := ⟨z, rfl, h1, h⟩
theorem s_zDGet_s {z : Str} {kvs : List (Key × V)} (h1 : Rd H p (.dK kvs)) (h2 : valV kvs (Sum.inr z : Key) = some v) (h : Q v H) : zDGet (.ref p) (.str z) H Q := ⟨p, v, rfl, .inl ⟨kvs, Sum.inr z, h1, rfl, h2.symm⟩, h⟩
theorem s_zDGet_i {kvs : List (Key × V)} (h1 : Rd H p (.dK kvs)) (h2 : valV kvs (Sum.inl i : Key) = some v) (h : Q v H) : zDGet (.ref p) (.int i) H Q := ⟨p, v, rfl, .inl ⟨kvs, Sum.inl i, h1, rfl, h2.symm⟩, h⟩
theorem s_zDIn_s {z : Str} {kvs : List (Key × V)} (h1 : Rd H p (.dK kvs)) (h : Q (.bl (valV kvs (Sum.inr z : Key)).isSome) H) : zDIn (.str z) (.ref p) H Q := ⟨p, _, rfl, .inl ⟨kvs, Sum.inr z, h1, rfl, rfl⟩, h⟩
theorem s_zDIn_i {kvs : List (Key × V)} (h1 : Rd H p (.dK kvs)) (h : Q (.bl (valV kvs (Sum.inl i : Key)).isSome) H) : zDIn (.int i) (.ref p) H Q := ⟨p, _, rfl, .inl ⟨kvs, Sum.inl i, h1, rfl, rfl⟩, h⟩
theorem s_zDNotIn_s {z : Str} {kvs : List (Key × V)} (h1 : Rd H p (.dK kvs)) (h : Q (.bl (!(valV kvs (Sum.inr z : Key)).isSome)) H) : zDNotIn (.str z) (.ref p) H Q := ⟨p, _, rfl, .inl ⟨kvs, Sum.inr z, h1, rfl, rfl⟩, h⟩
theorem s_zDNotIn_i {kvs : List (Key × V)} (h1 : Rd H p (.dK kvs)) (h : Q (.bl (!(valV kvs (Sum.inl i : Key)).isSome)) H) : zDNotIn (.int i) (.ref p) H Q := ⟨p, _, rfl, .inl ⟨kvs, Sum.inl i, h1, rfl, rfl⟩, h⟩
theorem s_zDPut_s {z : Str} {kvs : List (Key × V)} {N1 : Hp → Prop} (h1 : H p = some (.dK kvs)) (h2 : kvs.length < sizeLine) (h : N1 (upd H p (.dK (putK kvs (Sum.inr z : Key) v)))) : zDPut (.ref p) (.str z) v H N1 := ⟨p, _, rfl, .inl ⟨kvs, Sum.inr z, h1, rfl, h2, rfl⟩, h⟩
theorem s_zDPut_i {kvs : List (Key × V)} {N1 : Hp → Prop} (h1 : H p = some (.dK kvs)) (h2 : kvs.length < sizeLine) (h : N1 (upd H p (.dK (putK kvs (Sum.inl i : Key) v)))) : zDPut (.ref p) (.int i) v H N1 := ⟨p, _, rfl, .inl ⟨kvs, Sum.inl i, h1, rfl, h2, rfl⟩, h⟩
theorem s_zFld {C dx : Addr} {fs : List (Str × V)} {f : Str} (h1 : H p = some (.ins C dx fs)) (hc : Cls K C) (hn : NoAttr K C f) (hl : fs.lookup f = some v) (h : Q v H) : zFld K (.ref p) f H Q := ⟨p, C, dx, fs, v, rfl, h1, hc, hn, hl, h⟩
/-! ### ways -/
theorem s_ift (h : A) : zIf true A B := by unfold zIf; rw [if_pos rfl]; exact h
theorem s_iff (h : B) : zIf false A B := by unfold zIf; rw [if_neg Bool.false_ne_true]; exact h
theorem s_ifnn {D : Prop} [Decidable D] (h1 : ¬ D → A) (h2 : D → B) : zIf (!decide D) A B := by
  by_cases h : D
  · rw [decide_eq_true h]; exact s_iff (h2 h)
  · rw [decide_eq_false h]; exact s_ift (h1 h)
theorem s_nt (h : B) : zIf (!true) A B := s_iff h
theorem s_nf (h : A) : zIf (!false) A B := s_ift h
theorem s_ifd {D : Prop} [Decidable D] (h1 : D → A) (h2 : ¬ D → B) : zIf (decide D) A B := by
  by_cases h : D
  · rw [decide_eq_true h]; exact s_ift (h1 h)
  · rw [decide_eq_false h]; exact s_iff (h2 h)
theorem s_ifn {D : Prop} [Decidable D] (h1 : ¬ D → A) (h2 : D → B) : zIf (!decide D) A B := by
  by_cases h : D
  · rw [decide_eq_true h]; exact s_iff (h2 h)
  · rw [decide_eq_false h]; exact s_ift (h1 h)
theorem s_ifdt {D : Prop} [Decidable D] (h : D) (h1 : A) : zIf (decide D) A B := by rw [decide_eq_true h]; exact s_ift h1
theorem s_ifdf {D : Prop} [Decidable D] (h : ¬ D) (h1 : B) : zIf (decide D) A B := by rw [decide_eq_false h]; exact s_iff h1
theorem s_nft {D : Prop} [Decidable D] (h : D) (h1 : B) : zIf (!decide D) A B := by rw [decide_eq_true h]; exact s_iff h1
theorem s_nff {D : Prop} [Decidable D] (h : ¬ D) (h1 : A) : zIf (!decide D) A B := by rw [decide_eq_false h]; exact s_ift h1
theorem s_ifk (h1 : k = true → A) (h2 : k = false → B) : zIf k A B := by
  cases k with
  | true => exact s_ift (h1 rfl)
  | false => exact s_iff (h2 rfl)
theorem s_ifkt (h : k = true) (h1 : A) : zIf k A B := by subst h; exact s_ift h1
theorem s_ifkf (h : k = false) (h1 : B) : zIf k A B := by subst h; exact s_iff h1
/-! ### loops -/
/-- a loop whose iterator stands -/
def zLoop (J : It) (g : TG) (tb : TS) (D : Ends) (σ : L2.St) (H1 : Hp) : Prop := ∃ W : Nat → Nat → L2.St → Hp → Prop, (∃ m, W 0 m σ H1) ∧ ∀ i m σ H, W i m σ H →
  (J.stop i H ∧ D.nx σ H) ∨ (J.go i H ∧ ∃ N : L2.St → Hp → Prop, (∀ σ' H', N σ' H' → ∃ m', m' < m ∧ W (i + 1) m' σ' H') ∧ ∀ x H', J.yld i H x H' → g x σ H' fun σ2 H2 => tb { D with nx := N, ct := N, bk := D.nx } σ2 H2)
def zRng1 (vs : List V) (H : Hp) (R : It → Hp → Prop) : Prop := ∃ j : Int, vs = [.int j] ∧ -(2 ^ 62) ≤ j ∧ j < 2 ^ 62 ∧ R (Itr 0 j.toNat) H
def zRng2 (vs : List V) (H : Hp) (R : It → Hp → Prop) : Prop := ∃ i j : Int, vs = [.int i, .int j] ∧ (-(2 ^ 62) ≤ i ∧ i < 2 ^ 62 ∧ -(2 ^ 62) ≤ j ∧ j < 2 ^ 62) ∧ R (Itr i (j - i).toNat) H
def zItL (K : PySem.W.Frag) (x : V) (H : Hp) (R : It → Hp → Prop) : Prop := ∃ a, x = .ref a ∧ (∃ xs, SqL K H a xs) ∧ R (Itl K a) H
def zItT (K : PySem.W.Frag) (x : V) (H : Hp) (R : It → Hp → Prop) : Prop := ∃ a, x = .ref a ∧ (∃ xs, SqT K H a xs) ∧ R (Itt K a) H
/-- a comprehension whose iterator stands -/
def zLc (J : It) (g : TG) (t : TT) (te : TE) (vs : List Nat) (σ : L2.St) (H1 : Hp) (Q : VK) : Prop := ∀ D, H1 D = none → ∃ W : Nat → Nat → Hp → Prop, (∃ m, W 0 m (upd H1 D (.lst []))) ∧ ∀ i m H, W i m H →
  (J.stop i H ∧ Q (.ref D) H) ∨ (J.go i H ∧ ∃ Nx : Hp → Prop, (∀ H', Nx H' → ∃ m', m' < m ∧ W (i + 1) m' H') ∧ ∀ x H', J.yld i H x H' → g x (wipe σ vs) H' fun σ2 H2 => wipe σ2 vs = wipe σ vs ∧ t σ2 H2 fun b H3 =>
    if b = true then te σ2 H3 fun y H4 => ∃ acc, H4 D = some (.lst acc) ∧ acc.length < sizeLine ∧ Nx (upd H4 D (.lst (acc ++ [y]))) else Nx H3)
def zWipe (vs : List Nat) (σ σ2 : L2.St) (A : Prop) : Prop := wipe σ2 vs = wipe σ vs ∧ A
def zAcc (D : Addr) (y : V) (H : Hp) (P : Hp → Prop) : Prop := ∃ acc, H D = some (.lst acc) ∧ acc.length < sizeLine ∧ P (upd H D (.lst (acc ++ [y])))
theorem s_lc {wi : TI} {vs : List Nat} (h : wi σ H fun J H1 => zLc J g t te vs σ H1 Q) : tLc wi g t te vs σ H Q := h
theorem s_yes (h : QB true H) : tYes σ H QB := h
theorem s_wipe {vs : List Nat} {σ2 : L2.St} (h : wipe σ2 vs = wipe σ vs) (h1 : A) : zWipe vs σ σ2 A := ⟨h, h1⟩
theorem s_acc {D : Addr} {acc : List V} {P : Hp → Prop} (h1 : H D = some (.lst acc)) (h2 : acc.length < sizeLine) (h : P (upd H D (.lst (acc ++ [y])))) : zAcc D y H P := ⟨acc, h1, h2, h⟩
theorem lc_rng {lo : Int} {vs : List Nat} (Pv : Addr → Nat → Hp → Prop) (h0 : ∀ D, H D = none → Pv D 0 (upd H D (.lst [])))
    (hs : ∀ D i H', H D = none → i < n → Pv D i H' → g (.int (lo + (i : Int))) (wipe σ vs) H' fun σ2 H2 => zWipe vs σ σ2 (t σ2 H2 fun k H3 => zIf k (te σ2 H3 fun y H4 => zAcc D y H4 (Pv D (i + 1))) (Pv D (i + 1) H3)))
    (hd : ∀ D H', H D = none → Pv D n H' → Q (.ref D) H') : zLc (Itr lo n) g t te vs σ H Q := fun D hD =>
  lc_range (Pv D) (h0 D hD) (fun i H' hi hp => hs D i H' hD hi hp) (fun H' hp => hd D H' hD hp)
theorem lc_lst {vs : List Nat} (xs : List V) (Pv : Addr → Nat → Hp → Prop) (h0 : ∀ D, H D = none → Pv D 0 (upd H D (.lst []))) (hl : ∀ D i H', H D = none → i ≤ xs.length → Pv D i H' → SqL K H' p xs)
    (hs : ∀ D i x H', H D = none → xs[i]? = some x → Pv D i H' → g x (wipe σ vs) H' fun σ2 H2 => zWipe vs σ σ2 (t σ2 H2 fun k H3 => zIf k (te σ2 H3 fun y H4 => zAcc D y H4 (Pv D (i + 1))) (Pv D (i + 1) H3)))
    (hd : ∀ D H', H D = none → Pv D xs.length H' → Q (.ref D) H') : zLc (Itl K p) g t te vs σ H Q := fun D hD =>
  lc_list (xs := xs) (Pv D) (h0 D hD) (fun i H' hi hp => hl D i H' hD hi hp) (fun i x H' hx hp => hs D i x H' hD hx hp) (fun H' hp => hd D H' hD hp)
theorem lc_tp {vs : List Nat} (xs : List V) (Pv : Addr → Nat → Hp → Prop) (h0 : ∀ D, H D = none → Pv D 0 (upd H D (.lst []))) (hl : ∀ D i H', H D = none → i ≤ xs.length → Pv D i H' → SqT K H' p xs)
    (hs : ∀ D i x H', H D = none → xs[i]? = some x → Pv D i H' → g x (wipe σ vs) H' fun σ2 H2 => zWipe vs σ σ2 (t σ2 H2 fun k H3 => zIf k (te σ2 H3 fun y H4 => zAcc D y H4 (Pv D (i + 1))) (Pv D (i + 1) H3)))
    (hd : ∀ D H', H D = none → Pv D xs.length H' → Q (.ref D) H') : zLc (Itt K p) g t te vs σ H Q := fun D hD =>
  lc_tup (xs := xs) (Pv D) (h0 D hD) (fun i H' hi hp => hl D i H' hD hi hp) (fun i x H' hx hp => hs D i x H' hD hx hp) (fun H' hp => hd D H' hD hp)
theorem cut_nat {a b : Nat} {xs : List V} (h : a ≤ b) (h2 : b ≤ xs.length) : cutV xs (some (a : Int)) (some (b : Int)) = (xs.drop a).take (b - a) := by
  unfold cutV
  rw [HT.sIx_nat, HT.sIx_nat, Nat.min_eq_left h2, Nat.min_eq_left (Nat.le_trans h h2)]
theorem s_fdvq (h0 : 0 < j ∧ j < 10 ^ 70) (h : Q (.int (i / j)) H) : rFdv (.int i) (.int j) H Q := ⟨i, j, rfl, rfl, ⟨by omega, Nat.lt_of_lt_of_le (PySem.Flt.log2_lt_of (k := 240) (by decide) (by omega)) (by decide)⟩, by
  show Q (.int (i.fdiv j)) H
  rw [Int.fdiv_eq_ediv_of_nonneg i (by omega)]; exact h⟩
theorem s_extend {b' : Addr} {zs : List V} (h1 : H p = some (.lst xs)) (h2 : H b' = some (.lst zs)) (h3 : xs.length + zs.length ≤ sizeLine) (h : Q .non (upd H p (.lst (xs ++ zs)))) : rExtend (.ref p) [.ref b'] H Q := ⟨p, b', xs, zs, rfl, rfl, h1, h2, h3, h⟩
theorem s_clear (h1 : H p = some (.lst xs)) (h : Q .non (upd H p (.lst []))) : rClear (.ref p) [] H Q := ⟨p, xs, rfl, rfl, h1, h⟩
theorem s_for {wi : TI} {tb1 : TS} (h : wi σ H fun J H1 => zLoop J g tb1 ⟨N, r, b, c⟩ σ H1) : tFor wi g tb1 ⟨N, r, b, c⟩ σ H := h
theorem s_rng1 {R : It → Hp → Prop} (h : tA σ H fun vs H1 => zRng1 vs H1 R) : iRng1 tA σ H R := h
theorem s_rng2 {R : It → Hp → Prop} (h : tA σ H fun vs H1 => zRng2 vs H1 R) : iRng2 tA σ H R := h
theorem s_itl {R : It → Hp → Prop} (h : te σ H fun x H1 => zItL K x H1 R) : iList K te σ H R := h
theorem s_itt {R : It → Hp → Prop} (h : te σ H fun x H1 => zItT K x H1 R) : iTup K te σ H R := h
theorem s_zrng1 {R : It → Hp → Prop} (h1 : -(2 ^ 62) ≤ j ∧ j < 2 ^ 62) (h : R (Itr 0 j.toNat) H) : zRng1 [.int j] H R := ⟨j, rfl, h1.1, h1.2, h⟩
theorem s_zrng2 {R : It → Hp → Prop} (h1 : -(2 ^ 62) ≤ i ∧ i < 2 ^ 62 ∧ -(2 ^ 62) ≤ j ∧ j < 2 ^ 62) (h : R (Itr i (j - i).toNat) H) : zRng2 [.int i, .int j] H R := ⟨i, j, rfl, h1, h⟩
theorem s_zitl {R : It → Hp → Prop} (h1 : SqL K H p xs) (h : R (Itl K p) H) : zItL K (.ref p) H R := ⟨p, rfl, ⟨xs, h1⟩, h⟩
theorem s_zitt {R : It → Hp → Prop} (h1 : SqT K H p xs) (h : R (Itt K p) H) : zItT K (.ref p) H R := ⟨p, rfl, ⟨xs, h1⟩, h⟩
theorem loop_range {tb1 : TS} {lo : Int} (Pv : Nat → L2.St → Hp → Prop) (h0 : Pv 0 σ H) (hs : ∀ i σ' H', i < n → Pv i σ' H' → g (.int (lo + (i : Int))) σ' H' fun σ2 H2 => tb1 ⟨Pv (i + 1), r, N, Pv (i + 1)⟩ σ2 H2)
    (hd : ∀ σ' H', Pv n σ' H' → N σ' H') : zLoop (Itr lo n) g tb1 ⟨N, r, b, c⟩ σ H := for_range (D := ⟨N, r, b, c⟩) Pv h0 hs hd
theorem loop_list {tb1 : TS} (xs : List V) (Pv : Nat → L2.St → Hp → Prop) (h0 : Pv 0 σ H) (hl : ∀ i σ' H', i ≤ xs.length → Pv i σ' H' → SqL K H' p xs)
    (hs : ∀ i x σ' H', xs[i]? = some x → Pv i σ' H' → g x σ' H' fun σ2 H2 => tb1 ⟨Pv (i + 1), r, N, Pv (i + 1)⟩ σ2 H2) (hd : ∀ σ' H', Pv xs.length σ' H' → N σ' H') : zLoop (Itl K p) g tb1 ⟨N, r, b, c⟩ σ H :=
  for_list (D := ⟨N, r, b, c⟩) (xs := xs) Pv h0 hl hs hd
theorem loop_tup {tb1 : TS} (xs : List V) (Pv : Nat → L2.St → Hp → Prop) (h0 : Pv 0 σ H) (hl : ∀ i σ' H', i ≤ xs.length → Pv i σ' H' → SqT K H' p xs)
    (hs : ∀ i x σ' H', xs[i]? = some x → Pv i σ' H' → g x σ' H' fun σ2 H2 => tb1 ⟨Pv (i + 1), r, N, Pv (i + 1)⟩ σ2 H2) (hd : ∀ σ' H', Pv xs.length σ' H' → N σ' H') : zLoop (Itt K p) g tb1 ⟨N, r, b, c⟩ σ H :=
  for_tup (D := ⟨N, r, b, c⟩) (xs := xs) Pv h0 hl hs hd
def zBody (W : Nat → L2.St → Hp → Prop) (m : Nat) (tb : TS) (D : Ends) (σ : L2.St) (H1 : Hp) : Prop := ∃ N1 : L2.St → Hp → Prop, (∀ σ' H', N1 σ' H' → ∃ m', m' < m ∧ W m' σ' H') ∧ tb { D with nx := N1, ct := N1, bk := D.nx } σ H1
theorem s_zbody {W : Nat → L2.St → Hp → Prop} {m : Nat} {tb1 : TS} (h : tb1 ⟨fun σ2 H2 => ∃ m', m' < m ∧ W m' σ2 H2, r, N, fun σ2 H2 => ∃ m', m' < m ∧ W m' σ2 H2⟩ σ H) : zBody W m tb1 ⟨N, r, b, c⟩ σ H := ⟨_, fun σ2 H2 z => z, h⟩
theorem s_while {tb1 : TS} (W : Nat → L2.St → Hp → Prop) (m0 : Nat) (h0 : W m0 σ H)
    (hs : ∀ (m : Nat) σ' H', W m σ' H' → t σ' H' fun k H1 => zIf k (zBody W m tb1 ⟨N, r, b, c⟩ σ' H1) (N σ' H1)) : tWhile t tb1 ⟨N, r, b, c⟩ σ H := ⟨W, ⟨m0, h0⟩, fun m σ' H' w => hs m σ' H' w⟩
/-! ### heaps -/
theorem up_new {H : Hp} {q a : Addr} {o u : HO} (hq : H q = none) (h : H a = some o) : upd H q u a = some o := by rw [upd_ne (ne_of_none h hq)]; exact h
theorem up_far {H : Hp} {q a : Addr} {o u : HO} (hn : a ≠ q) (h : H a = some o) : upd H q u a = some o := by rw [upd_ne hn]; exact h
variable [TQ]
/-- what isn't a code object's table -/
def nt : HO → Bool
  | .tbl _ => false
  | _ => true
/-- what no one writes: what is locked, a table, a thing told by what is true of it -/
def Fz : HO → Prop
  | .frz _ _ => True
  | .tbl _ => True
  | .ext _ => True
  | _ => False
/-- a table: each code object that it tells bears the table's name -/
def TabG (H : Hp) (P : Addr) : Prop := LamX.TabS H P (TQ.q P)
/-- all but tables is as it was; tables stand, and tell of the same names -/
structure Same (H H' : Hp) : Prop where
  st : ∀ b o, H b = some o → nt o = true → H' b = some o
  tb : ∀ b ps, H b = some (.tbl ps) → ∃ ps', H' b = some (.tbl ps')
  tt : ∀ b, TabG H b → TabG H' b
theorem Same.ap {H H' : Hp} (s : Same H H') (b : Addr) (o : HO) (h : H b = some o) (k : nt o = true := by rfl) : H' b = some o := s.st b o h k
instance {H H' : Hp} : CoeFun (Same H H') fun _ => ∀ b o, H b = some o → (_ : nt o = true := by rfl) → H' b = some o := ⟨@Same.ap _ H H'⟩
theorem Same.all {H H' : Hp} (h : ∀ b o, H b = some o → H' b = some o) : Same H H' := ⟨fun b o e _ => h b o e, fun b ps e => ⟨ps, h _ _ e⟩, fun _ t => LamX.TabS.ext t h⟩
theorem Same.refl (H : Hp) : Same H H := .all fun _ _ h => h
theorem Same.trans {H H1 H2 : Hp} (a : Same H H1) (b : Same H1 H2) : Same H H2 := ⟨fun c o h n => b.st c o (a.st c o h n) n, fun c ps h => (a.tb c ps h).elim fun ps' z => b.tb c ps' z, fun c t => b.tt c (a.tt c t)⟩
theorem Same.free {H H' : Hp} (e : Same H H') {l : Addr} (h : H' l = Option.none) : H l = Option.none := by
  cases x : H l with
  | none => rfl
  | some o =>
    cases n : nt o with
    | true => rw [e.st _ _ x n] at h; cases h
    | false =>
      cases o with
      | tbl ps => obtain ⟨ps', z⟩ := e.tb _ _ x; rw [z] at h; cases h
      | _ => cases n
theorem Same.seq {K : PySem.W.Frag} {H H' : Hp} {a : Addr} {xs : List V} (S : Same H H') (h : SqL K H a xs) : SqL K H' a xs := by
  rcases h with (h | ⟨o, h⟩) | h
  · exact .inl (.inl (S _ _ h))
  · exact .inl (.inr ⟨o, S _ _ h⟩)
  · exact .inr h
theorem nt_lit {H H' : Hp} {a : Addr} {o : HO} (S : Same H H') (h : H a = some o) (n : nt o = true) : H' a = some o := S.st a o h n
theorem sm_rd {H H' : Hp} {a : Addr} {o : HO} (S : Same H H') (h : H a = some o) (n : nt o = true := by rfl) : H' a = some o := S.st a o h n
theorem same_new {H : Hp} {p : Addr} {o : HO} (h : H p = none) : Same H (upd H p o) := .all fun b u q => by rw [upd_ne (ne_of_none q h)]; exact q
/-- all but what stands at p (and isn't locked) is as it was -/
structure But (p : Addr) (H H' : Hp) : Prop where
  st : ∀ b o, (b ≠ p ∨ Fz o) → H b = some o → nt o = true → H' b = some o
  tb : ∀ b ps, H b = some (.tbl ps) → ∃ ps', H' b = some (.tbl ps')
  tt : ∀ b, TabG H b → TabG H' b
theorem But.ap {p : Addr} {H H' : Hp} (s : But p H H') (b : Addr) (o : HO) (n : (b ≠ p ∨ Fz o)) (h : H b = some o) (k : nt o = true := by rfl) : H' b = some o := s.st b o n h k
instance {p : Addr} {H H' : Hp} : CoeFun (But p H H') fun _ => ∀ b o, (b ≠ p ∨ Fz o) → H b = some o → (_ : nt o = true := by rfl) → H' b = some o := ⟨@But.ap _ p H H'⟩
theorem But.all {p : Addr} {H H' : Hp} (h : ∀ b o, (b ≠ p ∨ Fz o) → H b = some o → H' b = some o) : But p H H' := ⟨fun b o n e _ => h b o n e, fun b ps e => ⟨ps, h _ _ (.inr trivial) e⟩, fun b t => by
  obtain ⟨ps, h1, h2, h3⟩ := t
  refine ⟨ps, h _ _ (.inr trivial) h1, h2, fun pos cv hc => ?_⟩
  obtain ⟨c, e1, e2⟩ := h3 pos cv hc
  exact ⟨c, e1, h _ _ (.inr trivial) e2⟩⟩
theorem But.refl (p : Addr) (H : Hp) : But p H H := .all fun _ _ _ h => h
theorem But.trans {p : Addr} {H H1 H2 : Hp} (a : But p H H1) (b : But p H1 H2) : But p H H2 := ⟨fun c o n h k => b.st c o n (a.st c o n h k) k, fun c ps h => (a.tb c ps h).elim fun ps' z => b.tb c ps' z, fun c t => b.tt c (a.tt c t)⟩
theorem But.rd {p : Addr} {H H' : Hp} {a : Addr} {o : HO} (S : But p H H') (n : a ≠ p) (h : H a = some o) (k : nt o = true := by rfl) : H' a = some o := S.st a o (.inl n) h k
theorem But.of {p : Addr} {H H' : Hp} (S : Same H H') : But p H H' := ⟨fun b o _ h k => S.st b o h k, S.tb, S.tt⟩
theorem up_but {H : Hp} {p : Addr} {o u : HO} (h : H p = some u) (nf : ¬ Fz u) : But p H (L2.upd H p o) := .all fun b v n e => by
  by_cases c : b = p
  · subst c
    rw [h] at e
    cases e
    exact (n.elim (fun z => absurd rfl z) fun z => absurd z nf)
  · rw [upd_ne c]; exact e
theorem But.up {p : Addr} {H H' : Hp} {o u : HO} (S : But p H H') (hp : H' p = some u) (nf : ¬ Fz u) : But p H (L2.upd H' p o) := S.trans (up_but hp nf)
theorem But.new {p q : Addr} {H H' : Hp} {o : HO} (S : But p H H') (hq : H' q = none) : But p H (L2.upd H' q o) := S.trans (.of (same_new hq))
theorem But.none {p b : Addr} {H H' : Hp} (S : But p H H') (n : b ≠ p) (h : H' b = Option.none) : H b = Option.none := by
  cases x : H b with
  | none => rfl
  | some o =>
    cases k : nt o with
    | true => rw [S.st _ _ (.inl n) x k] at h; cases h
    | false =>
      cases o with
      | tbl ps => obtain ⟨ps', z⟩ := S.tb _ _ x; rw [z] at h; cases h
      | _ => cases k
theorem But.sqL {K : PySem.W.Frag} {p : Addr} {H H' : Hp} {a : Addr} {xs : List V} (S : But p H H') (n : a ≠ p) (h : SqL K H a xs) : SqL K H' a xs := by
  rcases h with (h | ⟨o, h⟩) | h
  · exact .inl (.inl (S _ _ (.inl n) h))
  · exact .inl (.inr ⟨o, S _ _ (.inl n) h⟩)
  · exact .inr h
theorem But.sqT {K : PySem.W.Frag} {p : Addr} {H H' : Hp} {a : Addr} {xs : List V} (S : But p H H') (n : a ≠ p) (h : SqT K H a xs) : SqT K H' a xs := by
  rcases h with (h | ⟨o, h⟩) | h
  · exact .inl (.inl (S _ _ (.inl n) h))
  · exact .inl (.inr ⟨o, S _ _ (.inl n) h⟩)
  · exact .inr h
theorem same_sqT {K : PySem.W.Frag} {H H' : Hp} {a : Addr} {xs : List V} (S : Same H H') (h : SqT K H a xs) : SqT K H' a xs := by
  rcases h with (h | ⟨o, h⟩) | h
  · exact .inl (.inl (S _ _ h))
  · exact .inl (.inr ⟨o, S _ _ h⟩)
  · exact .inr h
/-- the law's script: locked, or of the written part -/
def Scr (K : PySem.W.Frag) (H : Hp) (a : Addr) (ns : List Int) : Prop := (∃ o, H a = some (.frz o (.lst (ns.map V.int)))) ∨
  ∃ (o : Obj) (its : Array Value) (n : Nat), K.lookup a = some o ∧ o.cls = .type "list" ∧ o.dict = none ∧ o.data = .seq its n ∧ its.size ≤ sizeLine ∧ Vals (ns.map V.int) its.toList
theorem Scr.of {K : PySem.W.Frag} {H : Hp} {a : Addr} {ns : List Int} (h0 : Only H) (h : SqL K H a (ns.map V.int)) : Scr K H a ns := by
  rcases h with (h | ⟨o, h⟩) | h
  · rcases h0 a with e | ⟨o, xs, e⟩
    · rw [h] at e; cases e
    · rw [h] at e; cases e
  · exact .inl ⟨o, h⟩
  · exact .inr h
theorem Scr.sq {K : PySem.W.Frag} {H : Hp} {a : Addr} {ns : List Int} (h : Scr K H a ns) : SqL K H a (ns.map V.int) := by
  rcases h with ⟨o, h⟩ | h
  · exact .inl (.inr ⟨o, h⟩)
  · exact .inr h
theorem Scr.but {K : PySem.W.Frag} {H H' : Hp} {p a : Addr} {ns : List Int} (S : But p H H') (h : Scr K H a ns) : Scr K H' a ns := by
  rcases h with ⟨o, h⟩ | h
  · exact .inl ⟨o, S _ _ (.inr trivial) h⟩
  · exact .inr h
theorem Scr.same {K : PySem.W.Frag} {H H' : Hp} {a : Addr} {ns : List Int} (S : Same H H') (h : Scr K H a ns) : Scr K H' a ns := by
  rcases h with ⟨o, h⟩ | h
  · exact .inl ⟨o, S _ _ h⟩
  · exact .inr h
/-- a change of what stands at p, the heap behind it by a name -/
theorem c_setL {N1 : Hp → Prop} (n : Nat) (ys : List V) (h1 : H p = some (.lst xs)) (h2 : ixN xs.length i = some n) (h3 : xs.set n v = ys) (h : ∀ H', But p H H' → H' p = some (.lst ys) → N1 H') : rSetL (.ref p) (.int i) v H N1 :=
  s_setL h1 h2 (h _ (up_but h1 (fun z => z)) (by rw [h3]; exact upd_same))
theorem c_acc {D : Addr} {acc : List V} {P : Hp → Prop} (h1 : H D = some (.lst acc)) (h2 : acc.length < sizeLine) (h : ∀ H', But D H H' → H' D = some (.lst (acc ++ [y])) → P H') : zAcc D y H P :=
  s_acc h1 h2 (h _ (up_but h1 (fun z => z)) upd_same)
theorem c_fld {C dx : Addr} {fs gs : List (Str × V)} {f : Str} {N1 : Hp → Prop} (h1 : H p = some (.ins C dx fs)) (hc : Cls K C) (hn : NoAttr K C f) (hl : fs.length < 1000) (h3 : putF f y fs = gs) (h : ∀ H', But p H H' → H' p = some (.ins C dx gs) → N1 H') : zPutF K (.ref p) f y H N1 :=
  s_zputF h1 hc hn hl (h _ (up_but h1 (fun z => z)) (by rw [h3]; exact upd_same))
theorem c_extend {b' : Addr} {zs : List V} (h1 : H p = some (.lst xs)) (h2 : H b' = some (.lst zs)) (h3 : xs.length + zs.length ≤ sizeLine) (h : ∀ H', But p H H' → H' p = some (.lst (xs ++ zs)) → Q .non H') : rExtend (.ref p) [.ref b'] H Q :=
  s_extend h1 h2 h3 (h _ (up_but h1 (fun z => z)) upd_same)
theorem c_clear (h1 : H p = some (.lst xs)) (h : ∀ H', But p H H' → H' p = some (.lst []) → Q .non H') : rClear (.ref p) [] H Q :=
  s_clear h1 (h _ (up_but h1 (fun z => z)) upd_same)
theorem c_pop {z : V} (h1 : H p = some (.lst xs)) (h2 : xs[xs.length - 1]? = some z) (h : ∀ H', But p H H' → H' p = some (.lst xs.dropLast) → Q z H') : rPop (.ref p) [] H Q :=
  s_pop h1 h2 (h _ (up_but h1 (fun z => z)) upd_same)
theorem c_reverse (h1 : H p = some (.lst xs)) (h : ∀ H', But p H H' → H' p = some (.lst xs.reverse) → Q .non H') : rReverse (.ref p) [] H Q :=
  s_reverse h1 (h _ (up_but h1 (fun z => z)) upd_same)
/-- all but what stands at p or q -/
structure But2 (p q : Addr) (H H' : Hp) : Prop where
  st : ∀ b o, ((b ≠ p ∧ b ≠ q) ∨ Fz o) → H b = some o → nt o = true → H' b = some o
  tb : ∀ b ps, H b = some (.tbl ps) → ∃ ps', H' b = some (.tbl ps')
  tt : ∀ b, TabG H b → TabG H' b
theorem But2.ap {p q : Addr} {H H' : Hp} (s : But2 p q H H') (b : Addr) (o : HO) (n : ((b ≠ p ∧ b ≠ q) ∨ Fz o)) (h : H b = some o) (k : nt o = true := by rfl) : H' b = some o := s.st b o n h k
instance {p q : Addr} {H H' : Hp} : CoeFun (But2 p q H H') fun _ => ∀ b o, ((b ≠ p ∧ b ≠ q) ∨ Fz o) → H b = some o → (_ : nt o = true := by rfl) → H' b = some o := ⟨@But2.ap _ p q H H'⟩
theorem But2.left {p q : Addr} {H H' : Hp} (B : But p H H') : But2 p q H H' := ⟨fun b o n h k => B.st b o (n.imp And.left id) h k, B.tb, B.tt⟩
theorem But2.right {p q : Addr} {H H' : Hp} (B : But q H H') : But2 p q H H' := ⟨fun b o n h k => B.st b o (n.imp And.right id) h k, B.tb, B.tt⟩
theorem But2.trans {p q : Addr} {H H1 H2 : Hp} (a : But2 p q H H1) (b : But2 p q H1 H2) : But2 p q H H2 := ⟨fun c o n h k => b.st c o n (a.st c o n h k) k, fun c ps h => (a.tb c ps h).elim fun ps' z => b.tb c ps' z, fun c t => b.tt c (a.tt c t)⟩
theorem But2.of {p q : Addr} {H H' : Hp} (S : Same H H') : But2 p q H H' := ⟨fun b o _ h k => S.st b o h k, S.tb, S.tt⟩
theorem But2.rd {p q : Addr} {H H' : Hp} {a : Addr} {o : HO} (S : But2 p q H H') (n : a ≠ p) (m : a ≠ q) (h : H a = some o) (k : nt o = true := by rfl) : H' a = some o := S.st a o (.inl ⟨n, m⟩) h k
theorem But2.new {p q a : Addr} {H H' : Hp} {o : HO} (S : But2 p q H H') (ha : H' a = none) : But2 p q H (L2.upd H' a o) := S.trans (But2.of (same_new ha))
theorem But2.own {p q l : Addr} {H H1 H2 : Hp} (a : But2 p q H H1) (b : But l H1 H2) (hl : H l = none) : But2 p q H H2 := ⟨fun c o n h k => b.st c o (.inl (ne_of_none h hl)) (a.st c o n h k) k, fun c ps h => (a.tb c ps h).elim fun ps' z => b.tb c ps' z, fun c t => b.tt c (a.tt c t)⟩
theorem But2.one {p q : Addr} {H H' : Hp} (B : But2 p q H H') (hq : H q = none) : But p H H' := ⟨fun c o n h k => B.st c o (n.imp (fun z => ⟨z, ne_of_none h hq⟩) id) h k, B.tb, B.tt⟩
theorem But2.none {p q b : Addr} {H H' : Hp} (S : But2 p q H H') (n : b ≠ p) (m : b ≠ q) (h : H' b = Option.none) : H b = Option.none := by
  cases x : H b with
  | none => rfl
  | some o =>
    cases k : nt o with
    | true => rw [S.st _ _ (.inl ⟨n, m⟩) x k] at h; cases h
    | false =>
      cases o with
      | tbl ps => obtain ⟨ps', z⟩ := S.tb _ _ x; rw [z] at h; cases h
      | _ => cases k
theorem passC {X : Cx} (σ : L2.St) : PassesAt (L2.CX X.prog X.w) X σ (WE (fun _ _ _ _ => False) σ) := fun pins H s e s' I c => passL pins σ H s e s' I c
theorem c_append (h1 : H p = some (.lst xs)) (h2 : xs.length < sizeLine) (h : ∀ H', But p H H' → H' p = some (.lst (xs ++ [v])) → Q .non H') : rAppend (.ref p) [v] H Q :=
  s_append h1 h2 (h _ (up_but h1 (fun z => z)) upd_same)
/-- a change of what wasn't there at first -/
theorem But.own {p l : Addr} {H H1 H2 : Hp} (a : But p H H1) (b : But l H1 H2) (hl : H l = Option.none) : But p H H2 := ⟨fun c o n h k => b.st c o (.inl (ne_of_none h hl)) (a.st c o n h k) k, fun c ps h => (a.tb c ps h).elim fun ps' z => b.tb c ps' z, fun c t => b.tt c (a.tt c t)⟩
theorem same_own {l : Addr} {H H1 H2 : Hp} (a : Same H H1) (b : But l H1 H2) (hl : H l = Option.none) : Same H H2 := ⟨fun c o h k => b.st c o (.inl (ne_of_none h hl)) (a.st c o h k) k, fun c ps h => (a.tb c ps h).elim fun ps' z => b.tb c ps' z, fun c t => b.tt c (a.tt c t)⟩
/-- what is changed is of the new things -/
theorem same_keep {p : Addr} {o0 : HO} {H H1 H2 : Hp} (a : Same H H1) (b : But p H1 H2) (hl : ∀ o, H p = some o → Fz o) : Same H H2 := ⟨fun c o h k => b.st c o (by
  by_cases e : c = p
  · subst e; exact .inr (hl _ h)
  · exact .inl e) (a.st c o h k) k, fun c ps h => (a.tb c ps h).elim fun ps' z => b.tb c ps' z, fun c t => b.tt c (a.tt c t)⟩
/-- tuples stay -/
def TupS (H H' : Hp) : Prop := ∀ b ys, H b = some (.tup ys) → H' b = some (.tup ys)
theorem TupS.refl (H : Hp) : TupS H H := fun _ _ h => h
theorem TupS.trans {H H1 H2 : Hp} (a : TupS H H1) (b : TupS H1 H2) : TupS H H2 := fun c o h => b c o (a c o h)
theorem TupS.new {q : Addr} {H : Hp} {o : HO} (hq : H q = none) : TupS H (L2.upd H q o) := fun b ys h => same_new hq b _ h
theorem TupS.of {H H' : Hp} (S : Same H H') : TupS H H' := fun b _ h => S b _ h
theorem TupS.but {p : Addr} {H H' : Hp} {o : HO} (S : But p H H') (hp : H p = some o) (n : ∀ ys, o ≠ .tup ys) : TupS H H' := fun b ys h => S b _ (.inl fun e => by
  subst e
  rw [hp] at h
  exact n ys (Option.some.inj h)) h
theorem TupS.butN {p : Addr} {H H' : Hp} (S : But p H H') (hp : H p = none) : TupS H H' := fun b ys h => S b _ (.inl fun e => by
  subst e
  rw [hp] at h
  cases h) h
theorem But2.tups {p q : Addr} {H H' : Hp} {o u : HO} (B : But2 p q H H') (hp : H p = some o) (np : ∀ ys, o ≠ .tup ys) (hq : H q = some u) (nq : ∀ ys, u ≠ .tup ys) : TupS H H' := fun b ys h =>
  B b _ (.inl ⟨ne_of h hp (fun z => np ys z.symm), ne_of h hq (fun z => nq ys z.symm)⟩) h
/-- an item of a list of ints, at an open place within -/
theorem at_ints (ns : List Int) {i : Int} (h0 : 0 ≤ i) (h1 : i < ns.length) : ∃ w, w ∈ ns ∧ atI (ns.map V.int) i = some (.int w) := by
  refine ⟨ns[i.toNat]'(by omega), List.getElem_mem _, ?_⟩
  exact at_of (j := i.toNat) (by omega) (by rw [List.getElem?_map, List.getElem?_eq_getElem (by omega)]; rfl)
theorem putK_len {kvs : List (Key × V)} {k : Key} {v w : V} (h : valV kvs k = some w) : (putK kvs k v).length = kvs.length := by
  unfold putK
  rw [valV_any, h]
  simp
theorem valV_put_ne {kvs : List (Key × V)} {k j : Key} {v : V} (h : ¬ j = k) : valV (putK kvs k v) j = valV kvs j := by rw [valV_put, if_neg h]
theorem valV_put_eq {kvs : List (Key × V)} {k : Key} {v : V} : valV (putK kvs k v) k = some v := by rw [valV_put, if_pos rfl]
theorem c_dput_s {z : Str} {kvs : List (Key × V)} {N1 : Hp → Prop} (h1 : H p = some (.dK kvs)) (h2 : kvs.length < sizeLine) (h : ∀ H', But p H H' → H' p = some (.dK (putK kvs (Sum.inr z : Key) v)) → N1 H') : zDPut (.ref p) (.str z) v H N1 :=
  s_zDPut_s h1 h2 (h _ (up_but h1 (fun z => z)) upd_same)
theorem fdiv_abs (a b : Int) : (a.fdiv b).natAbs ≤ a.natAbs + 1 := Nat.le_succ_of_le (Int.natAbs_fdiv_le_natAbs a b)
/-! ### data: laid at most so deep -/
structure Sh (n : Nat) (d : PyData) : Prop where
  c : d.canLay0 = true
  d : d.depth ≤ n
theorem Sh.shaped {n : Nat} {d : PyData} (h : Sh n d) (hn : n ≤ 64) : SeqAt.shaped d = true := by
  unfold SeqAt.shaped
  rw [h.c, decide_eq_true (Nat.le_trans h.d hn)]
  rfl
theorem Sh.mono {n m : Nat} {d : PyData} (h : Sh n d) (hn : n ≤ m) : Sh m d := ⟨h.c, Nat.le_trans h.d hn⟩
theorem Sh.int {n : Nat} (i : Int) : Sh n (.int i) := ⟨rfl, Nat.zero_le _⟩
theorem Sh.non {n : Nat} : Sh n .none := ⟨rfl, Nat.zero_le _⟩
theorem Sh.bl {n : Nat} (b : Bool) : Sh n (.bool b) := ⟨rfl, Nat.zero_le _⟩
theorem Sh.str {n : Nat} {x : Str} (h : PyData.strOk x = true) : Sh n (.str x) := ⟨h, Nat.zero_le _⟩
theorem sh_all {n : Nat} : ∀ {ds : List PyData}, (∀ d ∈ ds, Sh n d) → PyData.canLayAll0 ds = true ∧ PyData.depthAll ds ≤ n
  | [], _ => ⟨rfl, Nat.zero_le _⟩
  | d :: ds, h => by
    have a := h d List.mem_cons_self
    have b := sh_all (ds := ds) fun e he => h e (List.mem_cons_of_mem _ he)
    refine ⟨?_, ?_⟩
    · show (d.canLay0 && PyData.canLayAll0 ds) = true
      rw [a.c, b.1]; rfl
    · show max d.depth (PyData.depthAll ds) ≤ n
      exact Nat.max_le.mpr ⟨a.d, b.2⟩
theorem Sh.list {n : Nat} {ds : List PyData} (h : ∀ d ∈ ds, Sh n d) : Sh (n + 1) (.list ds) := by
  have a := sh_all h
  refine ⟨?_, ?_⟩
  · show PyData.canLayAll0 ds = true
    exact a.1
  · show PyData.depthAll ds + 1 ≤ n + 1
    exact Nat.succ_le_succ a.2
theorem Sh.tup {n : Nat} {ds : List PyData} (h : ∀ d ∈ ds, Sh n d) : Sh (n + 1) (.tuple ds) := by
  have a := sh_all h
  refine ⟨?_, ?_⟩
  · show PyData.canLayAll0 ds = true
    exact a.1
  · show PyData.depthAll ds + 1 ≤ n + 1
    exact Nat.succ_le_succ a.2
theorem Sh.refl {n : Nat} {d : PyData} (h : Sh n d) : PyData.eqv d d = true := SeqAt.eqv_refl d h.c
theorem dp_ints {K : PySem.W.Frag} {H : Hp} : ∀ ns : List Int, DpAll K H (ns.map V.int) (ns.map PyData.int)
  | [] => .nil
  | _ :: ns => .cons (.int _) (dp_ints ns)
theorem sh_ints {n : Nat} (ns : List Int) : ∀ d ∈ ns.map PyData.int, Sh n d := fun d h => by
  obtain ⟨i, _, rfl⟩ := List.mem_map.mp h
  exact Sh.int i
/-- a promise that asks what never holds -/
theorem fn_none {P : Program} {w : World} {K : PySem.W.Frag} {mg : Str → Option Value} {base : Heap} {CX : CXT} {k : Nat} {f : Addr} {fd : FuncData} {ps : List Str} {sp : Sp} (h : ∀ vs H Q E, ¬ sp vs H Q E) : FnOk P w K mg base CX k f fd ps sp :=
  ⟨fun vs H Q E z => absurd z (h vs H Q E), fun A outer s H args us vs Q E _ _ _ _ z => absurd z (h vs H Q E)⟩
/-! ### specs by the number of arguments -/
def Sp0 (f : Hp → VK → XK → Prop) : Sp := fun vs H Q E => vs = [] ∧ f H Q E
def Sp1 (f : V → Hp → VK → XK → Prop) : Sp := fun vs H Q E => ∃ a, vs = [a] ∧ f a H Q E
def Sp2 (f : V → V → Hp → VK → XK → Prop) : Sp := fun vs H Q E => ∃ a b, vs = [a, b] ∧ f a b H Q E
def Sp3 (f : V → V → V → Hp → VK → XK → Prop) : Sp := fun vs H Q E => ∃ a b c, vs = [a, b, c] ∧ f a b c H Q E
def Sp4 (f : V → V → V → V → Hp → VK → XK → Prop) : Sp := fun vs H Q E => ∃ a b c d, vs = [a, b, c, d] ∧ f a b c d H Q E
def Sp5 (f : V → V → V → V → V → Hp → VK → XK → Prop) : Sp := fun vs H Q E => ∃ a b c d e, vs = [a, b, c, d, e] ∧ f a b c d e H Q E
end
end Z
/-! ### rows of values -/
namespace Z
open PySem PySem.Spec PyProof.Rows L2
variable [TQ]
def Row {α : Type} (R : α → V → Prop) (xs : List α) (vs : List V) : Prop := vs.length = xs.length ∧ ∀ (i : Nat) (x : α) (v : V), xs[i]? = some x → vs[i]? = some v → R x v
section
variable {α : Type} {R R' : α → V → Prop} {xs ys : List α} {vs ws : List V} {x : α} {v : V} {i : Nat}
theorem Row.nil : Row R [] [] := ⟨rfl, fun i x v h => by simp at h⟩
theorem Row.imp (h : Row R xs vs) (f : ∀ x v, x ∈ xs → R x v → R' x v) : Row R' xs vs := ⟨h.1, fun i x v a b => f _ _ (List.mem_of_getElem? a) (h.2 i x v a b)⟩
theorem Row.get (h : Row R xs vs) (e : xs[i]? = some x) : ∃ v, vs[i]? = some v ∧ R x v := by
  have hi := (List.getElem?_eq_some_iff.mp e).1
  have hj : i < vs.length := by rw [h.1]; exact hi
  exact ⟨vs[i], List.getElem?_eq_getElem hj, h.2 i x _ e (List.getElem?_eq_getElem hj)⟩
theorem Row.getv (h : Row R xs vs) (e : vs[i]? = some v) : ∃ x, xs[i]? = some x ∧ R x v := by
  have hi := (List.getElem?_eq_some_iff.mp e).1
  have hj : i < xs.length := by rw [← h.1]; exact hi
  exact ⟨xs[i], List.getElem?_eq_getElem hj, h.2 i _ v (List.getElem?_eq_getElem hj) e⟩
theorem Row.one (h : R x v) : Row R [x] [v] := ⟨rfl, fun i a b e f => by
  cases i with
  | zero => simp at e f; subst e; subst f; exact h
  | succ j => simp at e⟩
theorem Row.append (h : Row R xs vs) (g : Row R ys ws) : Row R (xs ++ ys) (vs ++ ws) := ⟨by rw [List.length_append, List.length_append, h.1, g.1], fun i a b e f => by
  by_cases c : i < xs.length
  · rw [List.getElem?_append_left c] at e
    rw [List.getElem?_append_left (by rw [h.1]; exact c)] at f
    exact h.2 i a b e f
  · rw [List.getElem?_append_right (by omega)] at e
    rw [List.getElem?_append_right (by rw [h.1]; omega), h.1] at f
    exact g.2 _ a b e f⟩
theorem Row.app (h : Row R xs vs) (g : R x v) : Row R (xs ++ [x]) (vs ++ [v]) := h.append (Row.one g)
theorem Row.cons (g : R x v) (h : Row R xs vs) : Row R (x :: xs) (v :: vs) := (Row.one g).append h
theorem Row.uncons {l : List V} (h : Row R (x :: xs) l) : ∃ v vs, l = v :: vs ∧ R x v ∧ Row R xs vs := by
  cases l with
  | nil => have := h.1; simp at this
  | cons v vs => exact ⟨v, vs, rfl, h.2 0 _ _ rfl rfl, by have := h.1; simpa using this, fun i a b e f => h.2 (i + 1) a b (by simpa using e) (by simpa using f)⟩
theorem Row.set (h : Row R xs vs) (g : R x v) : Row R (xs.set i x) (vs.set i v) := ⟨by rw [List.length_set, List.length_set, h.1], fun j a b e f => by
  by_cases c : i = j
  · subst c
    have hi := (List.getElem?_eq_some_iff.mp e).1
    rw [List.length_set] at hi
    rw [List.getElem?_set_self hi] at e
    rw [List.getElem?_set_self (by rw [h.1]; exact hi)] at f
    cases e; cases f; exact g
  · rw [List.getElem?_set_ne c] at e f
    exact h.2 j a b e f⟩
theorem Row.take (n : Nat) (h : Row R xs vs) : Row R (xs.take n) (vs.take n) := ⟨by rw [List.length_take, List.length_take, h.1], fun j a b e f => by
  rw [List.getElem?_take] at e f
  split at e
  · rename_i c; rw [if_pos c] at f; exact h.2 j a b e f
  · cases e⟩
theorem Row.drop (n : Nat) (h : Row R xs vs) : Row R (xs.drop n) (vs.drop n) := ⟨by rw [List.length_drop, List.length_drop, h.1], fun j a b e f => by
  rw [List.getElem?_drop] at e f
  exact h.2 _ a b e f⟩
theorem Row.len (h : Row R xs vs) : vs.length = xs.length := h.1
theorem Row.mp {β : Type} {f : β → α} {bs : List β} (h : Row R (bs.map f) vs) : Row (fun b v => R (f b) v) bs vs := ⟨by rw [h.1, List.length_map], fun i b v e g => h.2 i _ v (by rw [List.getElem?_map, e]; rfl) g⟩
theorem Row.mpr {β : Type} {f : β → α} {bs : List β} (h : Row (fun b v => R (f b) v) bs vs) : Row R (bs.map f) vs := ⟨by rw [h.1, List.length_map], fun i a v e g => by
  rw [List.getElem?_map] at e
  obtain ⟨b, e1, rfl⟩ := Option.map_eq_some_iff.mp e
  exact h.2 i b v e1 g⟩
end
/-- a tuple of ints -/
def TupI (H : Hp) (x : List Int) (v : V) : Prop := ∃ t, v = .ref t ∧ H t = some (.tup (x.map V.int))
def TupsAt (H : Hp) (xss : List (List Int)) (vs : List V) : Prop := Row (TupI H) xss vs
theorem TupI.mono {H H' : Hp} {x : List Int} {v : V} (S : TupS H H') (h : TupI H x v) : TupI H' x v := by
  obtain ⟨t, rfl, e⟩ := h
  exact ⟨t, rfl, S _ _ e⟩
theorem TupsAt.mono {H H' : Hp} {xss : List (List Int)} {vs : List V} (S : TupS H H') (h : TupsAt H xss vs) : TupsAt H' xss vs := Row.imp h fun _ _ _ r => r.mono S
/-- a list or a tuple of ints -/
def SeqI (K : PySem.W.Frag) (H : Hp) (x : List Int) (v : V) : Prop := ∃ t, v = .ref t ∧ (SqL K H t (x.map V.int) ∨ SqT K H t (x.map V.int))
theorem SeqI.same {K : PySem.W.Frag} {H H' : Hp} {x : List Int} {v : V} (S : Same H H') (h : SeqI K H x v) : SeqI K H' x v := by
  obtain ⟨t, rfl, e | e⟩ := h
  · exact ⟨t, rfl, .inl (S.seq e)⟩
  · exact ⟨t, rfl, .inr (same_sqT S e)⟩
theorem TupI.seq {K : PySem.W.Frag} {H : Hp} {x : List Int} {v : V} (h : TupI H x v) : SeqI K H x v := by
  obtain ⟨t, rfl, e⟩ := h
  exact ⟨t, rfl, .inr (SqT.of e)⟩
theorem tups_dp {K : PySem.W.Frag} {H : Hp} : ∀ {xss : List (List Int)} {vs : List V}, TupsAt H xss vs → DpAll K H vs (xss.map fun x => PyData.tuple (x.map PyData.int))
  | [], vs, h => by
    cases vs with
    | nil => exact .nil
    | cons _ _ => have := h.1; simp at this
  | x :: xss, vs, h => by
    obtain ⟨v, r, rfl, ⟨t, rfl, e⟩, g⟩ := Row.uncons h
    exact .cons (.tup (SqT.of e) (dp_ints x)) (tups_dp g)
theorem sh_tups {n : Nat} (xss : List (List Int)) : ∀ d ∈ xss.map (fun x => PyData.tuple (x.map PyData.int)), Sh (n + 1) d := fun d h => by
  obtain ⟨x, _, rfl⟩ := List.mem_map.mp h
  exact Sh.tup (sh_ints x)
/-- a pen: a list of a script and of numbers -/
def Pn (K : PySem.W.Frag) (n : Nat) (H : Hp) (p : Addr) : Prop := ∃ (sa : Addr) (ns ks : List Int), Scr K H sa ns ∧ ks.length = n ∧ (∀ x ∈ ks, 0 ≤ x) ∧ H p = some (.lst (.ref sa :: ks.map V.int))
section
variable {K : PySem.W.Frag} {H H' : Hp} {p q : Addr} {n : Nat} {o : HO}
theorem Pn.ne (h : Pn K n H p) (hq : H q = none) : q ≠ p := by
  obtain ⟨sa, ns, ks, hS, hl, hk, hp⟩ := h
  exact (ne_of_none hp hq).symm
theorem Pn.but (h : Pn K n H p) (B : But q H H') (m : p ≠ q) : Pn K n H' p := by
  obtain ⟨sa, ns, ks, hS, hl, hk, hp⟩ := h
  exact ⟨sa, ns, ks, hS.but B, hl, hk, B _ _ (.inl m) hp⟩
theorem Pn.butN (h : Pn K n H p) (B : But q H H') (m : q ≠ p) : Pn K n H' p := h.but B m.symm
theorem Pn.same (h : Pn K n H p) (S : Same H H') : Pn K n H' p := by
  obtain ⟨sa, ns, ks, hS, hl, hk, hp⟩ := h
  exact ⟨sa, ns, ks, hS.same S, hl, hk, S _ _ hp⟩
theorem Pn.new (h : Pn K n H p) (hq : H q = none) : Pn K n (upd H q o) p := h.same (same_new hq)
theorem Pn.tups (h : Pn K n H p) (B : But p H H') : TupS H H' := by
  obtain ⟨sa, ns, ks, hS, hl, hk, hp⟩ := h
  exact TupS.but B hp fun ys e => by cases e
theorem Pn.nei (h : Pn K n H p) {xs : List Int} (hq : H q = some (.lst (xs.map V.int))) : q ≠ p := by
  obtain ⟨sa, ns, ks, hS, hl, hk, hp⟩ := h
  exact ne_of hq hp (by
    intro z
    injection z with z
    cases xs with
    | nil => cases z
    | cons x xs => injection z with z _; cases z)
theorem Pn.net (h : Pn K n H p) {xs : List V} (hq : H q = some (.tup xs)) : q ≠ p := by
  obtain ⟨sa, ns, ks, hS, hl, hk, hp⟩ := h
  exact ne_of hq hp (by intro z; cases z)
end
theorem TupS.butL {p : Addr} {H H' : Hp} {xs : List V} (S : But p H H') (hp : H p = some (.lst xs)) : TupS H H' := TupS.but S hp fun ys e => by cases e
/-- is, of None or of truths -/
def rIsU : R2 := fun x y H Q => rIsNz x y H Q ∨ rIsB x y H Q
def rNotU : R2 := fun x y H Q => rNotNz x y H Q ∨ rNotB x y H Q
theorem op_isU {X : Cx} : OpR X (compareOp .Is) rIsU := OpR.or op_isNz op_isBl
theorem op_notU {X : Cx} : OpR X (compareOp .IsNot) rNotU := OpR.or op_notNz op_notBl
section
variable {K : PySem.W.Frag} {σ : L2.St} {H : Hp} {Q : VK} {N b c : L2.St → Hp → Prop} {r : VK} {te : TE} {x y : V} {i : Int} {n : Nat} {p q : Addr} {xs : List V} {j k : Bool}
theorem s_isU_n (h : rIsNz x .non H Q) : rIsU x .non H Q := .inl h
theorem s_notU_n (h : rNotNz x .non H Q) : rNotU x .non H Q := .inl h
theorem s_isU_b (h : Q (.bl (decide (j = k))) H) : rIsU (.bl j) (.bl k) H Q := .inr ⟨j, k, rfl, rfl, h⟩
theorem s_notU_b (h : Q (.bl (!decide (j = k))) H) : rNotU (.bl j) (.bl k) H Q := .inr ⟨j, k, rfl, rfl, h⟩
/-- an item of a literal list of ints -/
theorem s_ixI (ns : List Int) (h1 : SqL K H p xs) (e : xs = ns.map V.int) (h2 : 0 ≤ i) (h3 : i < ns.length) (h : ∀ w, w ∈ ns → ns[i.toNat]? = some w → Q (.int w) H) : rIx K (.ref p) (.int i) H Q := by
  subst e
  have hl : i.toNat < ns.length := by omega
  refine s_ix_l h1 (v := .int ns[i.toNat]) (at_of (j := i.toNat) (by omega) (by rw [List.getElem?_map, List.getElem?_eq_getElem hl]; rfl)) ?_
  exact h _ (List.getElem_mem _) (List.getElem?_eq_getElem hl)
theorem s_ixN {ns : List V} {m : Nat} {v : V} (h1 : SqL K H p ns) (h2 : ns[m]? = some v) (h : Q v H) : rIx K (.ref p) (.int (m : Int)) H Q := s_ix_l h1 (atI_nat h2) h
theorem s_ixTN {ns : List V} {m : Nat} {v : V} (h1 : SqT K H p ns) (h2 : ns[m]? = some v) (h : Q v H) : rIx K (.ref p) (.int (m : Int)) H Q := s_ix_t h1 (atI_nat h2) h
end
section
variable {K : PySem.W.Frag} {H : Hp} {Q : VK} {p q a : Addr} {xs : List V} {i : Int} {x : V} {te : TE} {σ : L2.St}
theorem tyx_l (h : SqL K H p xs) : TyX K H (.ref p) (.type "list") := by
  rcases h with (h | ⟨o, h⟩) | ⟨o, its, n, h, hc, _⟩
  · exact .base (.lst h)
  · exact .base (.frz h)
  · exact .kList h hc
theorem tyx_t (h : SqT K H p xs) : TyX K H (.ref p) (.type "tuple") := by
  rcases h with (h | ⟨o, h⟩) | ⟨o, its, n, h, hc, _⟩
  · exact .base (.tup h)
  · exact .fTuple h
  · exact .kTuple h hc
theorem kit_any2 {K : PySem.W.Frag} {a b c : String} {r r' : Bool} (h1 : kitB a b = some r) (h2 : kitB a c = some r') : PySem.W.kitAny K (.type a) [.type b, .type c] = some (r || r') := by
  unfold PySem.W.kitAny
  have e1 := kit_ty (K := K) h1
  have e2 := kit_ty (K := K) h2
  show (match PySem.W.kitOne K (.type a) (.type b) with | some true => some true | some false => PySem.W.kitAny K (.type a) [.type c] | none => none) = _
  rw [e1]
  cases r with
  | true => rfl
  | false =>
    show (match PySem.W.kitOne K (.type a) (.type c) with | some true => some true | some false => some false | none => none) = _
    rw [e2]
    cases r' <;> rfl
theorem s_isiT {cs : List V} {t : Value} {us : List Value} {bb : Bool} (h1 : H q = some (.tup cs)) (h2 : Paired ClsV cs us) (h3 : TyX K H x t) (h4 : PySem.W.kitAny K t us = some bb) (h : Q (.bl bb) H) : rIsi2 K [x, .ref q] H Q := .inr ⟨x, q, cs, t, us, bb, rfl, h1, h2, h3, h4, h⟩
theorem isi_lt_l (h1 : H q = some (.tup [.ty "list", .ty "tuple"])) (h2 : SqL K H p xs) (h : Q (.bl true) H) : rIsi2 K [.ref p, .ref q] H Q :=
  s_isiT h1 (.cons (.ty _) (.cons (.ty _) .nil)) (tyx_l h2) (kit_any2 (r := true) (r' := false) (by decide +kernel) (by decide +kernel)) h
theorem isi_lt_t (h1 : H q = some (.tup [.ty "list", .ty "tuple"])) (h2 : SqT K H p xs) (h : Q (.bl true) H) : rIsi2 K [.ref p, .ref q] H Q :=
  s_isiT h1 (.cons (.ty _) (.cons (.ty _) .nil)) (tyx_t h2) (kit_any2 (r := false) (r' := true) (by decide +kernel) (by decide +kernel)) h
theorem isi_list (h2 : SqL K H p xs) (h : Q (.bl true) H) : rIsi2 K [.ref p, .ty "list"] H Q := s_isi (bb := true) (.ty _) (tyx_l h2) (kit_ty (by decide +kernel)) h
theorem isi_tup (h2 : SqT K H p xs) (h : Q (.bl true) H) : rIsi2 K [.ref p, .ty "tuple"] H Q := s_isi (bb := true) (.ty _) (tyx_t h2) (kit_ty (by decide +kernel)) h
theorem isi_int (h : Q (.bl true) H) : rIsi2 K [.int i, .ty "int"] H Q := s_isi (bb := true) (.ty _) (.base (.int i)) (kit_ty (by decide +kernel)) h
theorem isi_int_bool (h : Q (.bl false) H) : rIsi2 K [.int i, .ty "bool"] H Q := s_isi (bb := false) (.ty _) (.base (.int i)) (kit_ty (by decide +kernel)) h
/-- for x in a list or a tuple -/
def iUn (K : PySem.W.Frag) (te : TE) : TI := fun σ H R => iList K te σ H R ∨ iTup K te σ H R
theorem pi_un {X : Cx} {tg e : Expr} {te : TE} (h : PE X e te) : PI X tg e (iUn X.K te) :=
  ⟨fun pins s σ H R I z => z.elim (fun z => (pi_list h).run pins s σ H R I z) fun z => (pi_tup h).run pins s σ H R I z⟩
theorem s_iun_l {R : It → Hp → Prop} (h : te σ H fun x H1 => zItL K x H1 R) : iUn K te σ H R := .inl h
theorem s_iun_t {R : It → Hp → Prop} (h : te σ H fun x H1 => zItT K x H1 R) : iUn K te σ H R := .inr h
end
/-- a list or a tuple that is gone through -/
def SqB (K : PySem.W.Frag) : Bool → Hp → Addr → List V → Prop
  | true, H, p, xs => SqL K H p xs
  | false, H, p, xs => SqT K H p xs
def Itu (K : PySem.W.Frag) (p : Addr) : Bool → It
  | true => Itl K p
  | false => Itt K p
theorem SqB.same {K : PySem.W.Frag} {k : Bool} {H H' : Hp} {p : Addr} {xs : List V} (S : Same H H') (h : SqB K k H p xs) : SqB K k H' p xs := by
  cases k with
  | true => exact S.seq h
  | false => exact same_sqT S h
theorem SqB.but {K : PySem.W.Frag} {k : Bool} {H H' : Hp} {p q : Addr} {xs : List V} (B : But q H H') (n : p ≠ q) (h : SqB K k H p xs) : SqB K k H' p xs := by
  cases k with
  | true => exact B.sqL n h
  | false => exact B.sqT n h
section
variable {K : PySem.W.Frag} {H : Hp} {Q : VK} {p q a : Addr} {xs : List V} {i : Int} {x : V} {te : TE} {σ : L2.St} {k : Bool} {g : TG} {N b c : L2.St → Hp → Prop} {r : VK} {t : TT} {n : Nat}
theorem s_iunV {R : It → Hp → Prop} (h : SqL K H p xs ∨ SqT K H p xs) (hv : σ[n]? = some (some (.ref p))) (hR : ∀ k, SqB K k H p xs → R (Itu K p k) H) : iUn K (tVar n) σ H R :=
  h.elim (fun z => .inl ⟨_, hv, p, rfl, ⟨xs, z⟩, hR true z⟩) fun z => .inr ⟨_, hv, p, rfl, ⟨xs, z⟩, hR false z⟩
theorem loop_un {tb1 : TS} (xs : List V) (Pv : Nat → L2.St → Hp → Prop) (h0 : Pv 0 σ H) (hl : ∀ i σ' H', i ≤ xs.length → Pv i σ' H' → SqB K k H' p xs)
    (hs : ∀ i x σ' H', xs[i]? = some x → Pv i σ' H' → g x σ' H' fun σ2 H2 => tb1 ⟨Pv (i + 1), r, N, Pv (i + 1)⟩ σ2 H2) (hd : ∀ σ' H', Pv xs.length σ' H' → N σ' H') : zLoop (Itu K p k) g tb1 ⟨N, r, b, c⟩ σ H := by
  cases k with
  | true => exact loop_list xs Pv h0 hl hs hd
  | false => exact loop_tup xs Pv h0 hl hs hd
theorem lc_un {vs : List Nat} (xs : List V) (Pv : Addr → Nat → Hp → Prop) (h0 : ∀ D, H D = none → Pv D 0 (upd H D (.lst []))) (hl : ∀ D i H', H D = none → i ≤ xs.length → Pv D i H' → SqB K k H' p xs)
    (hs : ∀ D i x H', H D = none → xs[i]? = some x → Pv D i H' → g x (wipe σ vs) H' fun σ2 H2 => zWipe vs σ σ2 (t σ2 H2 fun k H3 => zIf k (te σ2 H3 fun y H4 => zAcc D y H4 (Pv D (i + 1))) (Pv D (i + 1) H3)))
    (hd : ∀ D H', H D = none → Pv D xs.length H' → Q (.ref D) H') : zLc (Itu K p k) g t te vs σ H Q := by
  cases k with
  | true => exact lc_lst xs Pv h0 hl hs hd
  | false => exact lc_tp xs Pv h0 hl hs hd
/-- in a list or a tuple -/
theorem s_ixU {z : Int} {v : V} (h1 : SqL K H p xs ∨ SqT K H p xs) (h2 : atI xs z = some v) (h : Q v H) : rIx K (.ref p) (.int z) H Q := h1.elim (fun y => s_ix_l y h2 h) fun y => s_ix_t y h2 h
theorem s_lenU (h1 : SqL K H p xs ∨ SqT K H p xs) (h : Q (.int xs.length) H) : rLen K [.ref p] H Q := h1.elim (fun y => s_len_l y h) fun y => s_len_t y h
theorem s_gunU {tg : TGs} {NN : L2.St → Hp → Prop} (hs : SqL K H p xs ∨ SqT K H p xs) (hl : xs.length = n) (h : tg xs σ H NN) : gUn K n tg (.ref p) σ H NN := hs.elim (fun y => s_gun_l y hl h) fun y => s_gun_t y hl h
theorem s_listU (h1 : SqL K H p xs ∨ SqT K H p xs) (h : ∀ l, H l = none → Q (.ref l) (upd H l (.lst xs))) : rListOf K [.ref p] H Q := h1.elim (fun y => s_listof_l y h) fun y => s_listof_t y h
theorem isi_ltU (h1 : H q = some (.tup [.ty "list", .ty "tuple"])) (h2 : SqL K H p xs ∨ SqT K H p xs) (h : Q (.bl true) H) : rIsi2 K [.ref p, .ref q] H Q := h2.elim (fun y => isi_lt_l h1 y h) fun y => isi_lt_t h1 y h
end
theorem seqU_same {K : PySem.W.Frag} {H H' : Hp} {p : Addr} {xs : List V} (S : Same H H') (h : SqL K H p xs ∨ SqT K H p xs) : SqL K H' p xs ∨ SqT K H' p xs := h.imp S.seq (same_sqT S)
theorem seqU_but {K : PySem.W.Frag} {H H' : Hp} {p q : Addr} {xs : List V} (B : But q H H') (n : p ≠ q) (h : SqL K H p xs ∨ SqT K H p xs) : SqL K H' p xs ∨ SqT K H' p xs := h.imp (B.sqL n) (B.sqT n)
theorem inV_ints (i : Int) (ns : List Int) : inV (.int i) (ns.map V.int) = decide (i ∈ ns) := by
  unfold inV
  induction ns with
  | nil => simp
  | cons a ns ih =>
    rw [List.map_cons, List.any_cons, ih]
    have : eqV (.int a) (.int i) = decide (i = a) := by
      show (a == i) = _
      by_cases c : i = a
      · subst c; simp
      · rw [decide_eq_false c]; simpa using fun z => c z.symm
    rw [this]
    by_cases c : i = a <;> simp [c]
theorem cut_takeI (ys : List Int) (j : Nat) : cutV (ys.map V.int) none (some (j : Int)) = (ys.take j).map V.int := by
  unfold cutV
  rw [HT.sIx_none, HT.sIx_nat, List.drop_zero, Nat.sub_zero, List.length_map, ← List.map_take]
  congr 1
  by_cases h : j ≤ ys.length
  · rw [Nat.min_eq_left h]
  · rw [Nat.min_eq_right (by omega), List.take_of_length_le (by omega), List.take_of_length_le (by omega)]
theorem cut_dropI (ys : List Int) (j : Nat) : cutV (ys.map V.int) (some (j : Int)) none = (ys.drop j).map V.int := by
  unfold cutV
  rw [HT.sIx_none, HT.sIx_nat, List.length_map]
  by_cases h : j ≤ ys.length
  · rw [Nat.min_eq_left h, ← List.map_drop, List.take_of_length_le (by rw [List.length_map, List.length_drop]; omega)]
  · rw [Nat.min_eq_right (by omega), List.drop_eq_nil_of_le (by rw [List.length_map]; omega), List.drop_eq_nil_of_le (by omega)]
    simp
theorem SqB.of {K : PySem.W.Frag} {H : Hp} {p : Addr} {xs : List V} (h : SqL K H p xs ∨ SqT K H p xs) : ∃ k, SqB K k H p xs := h.elim (fun z => ⟨true, z⟩) fun z => ⟨false, z⟩
theorem SqB.or {K : PySem.W.Frag} {H : Hp} {p : Addr} {xs : List V} {k : Bool} (h : SqB K k H p xs) : SqL K H p xs ∨ SqT K H p xs := by
  cases k with
  | true => exact .inl h
  | false => exact .inr h
theorem s_iunB {K : PySem.W.Frag} {σ : L2.St} {H : Hp} {n : Nat} {p : Addr} {xs : List V} {k : Bool} {R : It → Hp → Prop} (h : SqB K k H p xs) (hv : σ[n]? = some (some (.ref p))) (hR : R (Itu K p k) H) : iUn K (tVar n) σ H R := by
  cases k with
  | true => exact .inl ⟨_, hv, p, rfl, ⟨xs, h⟩, hR⟩
  | false => exact .inr ⟨_, hv, p, rfl, ⟨xs, h⟩, hR⟩
theorem ixN_nat {n i : Nat} (h : i < n) : ixN n (i : Int) = some i := by
  unfold ixN
  rw [if_pos (by omega), if_pos (by omega), Int.toNat_natCast]
theorem s_iunE {K : PySem.W.Frag} {σ : L2.St} {H : Hp} {p : Addr} {xs : List V} {k : Bool} {te : TE} {R : It → Hp → Prop} (hte : ∀ Q : VK, Q (.ref p) H → te σ H Q) (h : SqB K k H p xs) (hR : R (Itu K p k) H) : iUn K te σ H R := by
  cases k with
  | true => exact .inl (hte _ ⟨p, rfl, ⟨xs, h⟩, hR⟩)
  | false => exact .inr (hte _ ⟨p, rfl, ⟨xs, h⟩, hR⟩)
theorem s_tupU {K : PySem.W.Frag} {H : Hp} {p : Addr} {xs : List V} {Q : VK} (h1 : SqL K H p xs ∨ SqT K H p xs) (h : ∀ l H', Same H H' → SqT K H' l xs → Q (.ref l) H') : rTupOf K [.ref p] H Q :=
  h1.elim (fun y => s_tupof_l y fun l hl => h l _ (same_new hl) (SqT.of upd_same)) fun y => s_tupof_t y (h p H (Same.refl _) y)
theorem at_neg1 {xs : List V} {v : V} (h : xs[xs.length - 1]? = some v) : atI xs (-1) = some v := by
  have hl := (List.getElem?_eq_some_iff.mp h).1
  have e : ixN xs.length (-1) = some (xs.length - 1) := by
    unfold ixN
    rw [if_neg (by omega), if_pos (by omega)]
    congr 1
    omega
  unfold atI
  rw [e]
  exact h
theorem sqL_ins {K : PySem.W.Frag} {H H' : Hp} {p l : Addr} {o : HO} {xs : List V} (hp : H p = some o) (no : ∀ ys, o ≠ .lst ys) (B : But p H H') (h : SqL K H l xs) : SqL K H' l xs := by
  rcases h with (h | ⟨u, h⟩) | h
  · exact .inl (.inl (B _ _ (.inl (ne_of h hp fun z => no _ z.symm)) h))
  · exact .inl (.inr ⟨u, B _ _ (.inr trivial) h⟩)
  · exact .inr h
theorem s_cutT {K : PySem.W.Frag} {H : Hp} {Q : VK} {a : Addr} {xs : List V} {lo hi : Option Int} (h1 : SqT K H a xs) (hn : ¬ (HT.sIx xs.length 0 lo = 0 ∧ HT.sIx xs.length xs.length hi = xs.length)) (h : ∀ p, H p = none → Q (.ref p) (upd H p (.tup (cutV xs lo hi)))) : rSlU K (.ref a) lo hi H Q :=
  .inr ⟨a, xs, rfl, h1, fun z => absurd z hn, fun _ => h⟩
theorem s_cutTw {K : PySem.W.Frag} {H : Hp} {Q : VK} {a : Addr} {xs : List V} {lo hi : Option Int} (h1 : SqT K H a xs) (hn : HT.sIx xs.length 0 lo = 0 ∧ HT.sIx xs.length xs.length hi = xs.length) (h : Q (.ref a) H) : rSlU K (.ref a) lo hi H Q :=
  .inr ⟨a, xs, rfl, h1, fun _ => h, fun z => absurd hn z⟩
theorem cut_front {xs : List V} {v : V} : cutV (xs ++ [v]) none (some (-1)) = xs := by
  have e : HT.sIx (xs ++ [v]).length (xs ++ [v]).length (some (-1)) = xs.length := by
    show (if (-1 : Int) < 0 then ((-1 : Int) + ((xs ++ [v]).length : Int)).toNat else min (-1 : Int).toNat (xs ++ [v]).length) = _
    rw [if_pos (by decide), List.length_append, List.length_singleton]
    omega
  unfold cutV
  rw [e]
  show List.take (xs.length - 0) (List.drop 0 _) = _
  rw [Nat.sub_zero, List.drop_zero, List.take_left]
/-! ### d.update(d2); ValueError.__init__ -/
theorem find_vei {K : PySem.W.Frag} : PySem.W.findCls K (.type "ValueError") (.type "type") "__init__" = some (.val (.builtin "ValueError.__init__")) := by kernel_rfl
def tDUpd (td ty : TE) : TE := fun σ H Q => td σ H fun x H1 => ∃ a, x = .ref a ∧ IsD H1 a ∧ ty σ H1 fun y H2 => ∃ (b : Addr) (kvs more : List (Key × V)), y = .ref b ∧ a ≠ b ∧ H2 a = some (.dK kvs) ∧ H2 b = some (.dK more) ∧ kvs.length + more.length ≤ 1000 ∧ Q .non (upd H2 a (.dK (mergeK kvs more)))
section
variable {X : Cx} {pins : List (Addr × Obj)} {σ : L2.St} {H : Hp} {s : Shared} {a b : Addr} {kvs more : List (Key × V)} {A : Around} {E : Value → Shared → Prop}
theorem d_update {Q : Value → Shared → Prop} (I : Inv X pins σ H s) (e : H a = some (.dK kvs)) (e2 : H b = some (.dK more)) (ne : a ≠ b) (hl : kvs.length + more.length ≤ 1000)
    (h : ∀ s', Inv X pins σ (upd H a (.dK (mergeK kvs more))) s' → Q .none s') : wpAny (model X.prog X.w) A (call (.builtin "dict.update") [.ref a, .ref b]) Q E s := by
  obtain ⟨z, hd, vs, rel, dd⟩ := dk_of I.hok e
  obtain ⟨z2, hd2, ws, rel2, dd2⟩ := dk_of I.hok e2
  have hz : vs.length + ws.length ≤ sizeLine := by
    rw [← rel.length, ← rel2.length]
    rw [sizeLine_eq]
    omega
  refine call_meetsIn PySem.F.slot_dict_update dd.typeIs PySem.F.entry_dict_update (PySem.F.args_dict_update_2 _ _) (meets_dict_update (mixKind X.prog X.w) a b ne hd2) ⟨vs, ws, dd, dd2, hz, fun h' dd' _ hs => h _ ?_⟩
  have he : ∃ q, h'.get? a = some q := let ⟨q, _, _, hq, _⟩ := dd'; ⟨q, hq⟩
  have hlen : (mergeK kvs more).length ≤ sizeLine := by
    refine Nat.le_trans (length_mergeK more kvs) ?_
    rw [sizeLine_eq]
    omega
  exact d_write (t' := s.toks) I (by rw [e]; exact True.intro) hs he (dk_new hlen hd (KV.merge rel2 rel) dd')
end
section
variable {X : Cx} {o e : Expr} {apos cpos : Pos} {td ty : TE}
theorem pe_dupd (ho : PE X o td) (he : PE X e ty) (m : M1 X o "update" apos e cpos) : PE X (.Call (.Attribute o "update" apos) [e] [] cpos) (tDUpd td ty) := by
  refine ⟨fun pins s σ H Q I h => ?_⟩
  refine wpAny_Call_method m.base m.few m.line PySem.F.plainAttrs_dict PySem.F.slot_dict_update PySem.F.type_dict_update (thn (ho.run pins s σ H _ I h) fun u s1 ⟨x, H1, I1, rx, a, ex, d, q1⟩ => ?_)
  subst ex
  obtain rfl : u = Value.ref a := rx
  obtain ⟨t1, t2, _⟩ := isD_at I1 d
  refine ⟨t1, t2, ?_⟩
  rw [m.trees]
  refine Calls.callWith_builtin rfl (Calls.evalArgs_plain (Calls.spliced_cons (thn (he.run pins s1 σ H1 _ I1 q1) fun iv s2 ⟨y, H2, I2, ry, b, kvs, more, ey, ne, ea, eb, hl, q2⟩ => Calls.spliced_nil ?_)))
  subst ey
  obtain rfl : iv = Value.ref b := ry
  exact d_update I2 ea eb ne hl fun s3 I3 => ⟨.non, _, I3, rfl, q2⟩
end
theorem s_dupd {td ty : TE} {σ : L2.St} {H : Hp} {Q : VK} (h : td σ H fun x H1 => ∃ a, x = .ref a ∧ IsD H1 a ∧ ty σ H1 fun y H2 => ∃ (b : Addr) (kvs more : List (Key × V)), y = .ref b ∧ a ≠ b ∧ H2 a = some (.dK kvs) ∧ H2 b = some (.dK more) ∧ kvs.length + more.length ≤ 1000 ∧ Q .non (upd H2 a (.dK (mergeK kvs more)))) : tDUpd td ty σ H Q := h
/-- list(range(n)) -/
def zRgL (x : V) (H : Hp) (Q : VK) : Prop := ∃ n, x = .int n ∧ RgOk 0 n ∧ ∀ q, H q = none → Q (.ref q) (upd H q (.lst (rgV 0 n)))
theorem s_lstRg {ta : TE} {σ : L2.St} {H : Hp} {Q : VK} (h : ta σ H fun x H1 => zRgL x H1 Q) : tLstRg (tRg1 ta) σ H Q := h
theorem s_zRgL {n : Int} {H : Hp} {Q : VK} (h1 : 0 ≤ n ∧ n ≤ 1000000) (h : ∀ q, H q = none → Q (.ref q) (upd H q (.lst (((List.range n.toNat).map fun i : Nat => (i : Int)).map V.int)))) : zRgL (.int n) H Q :=
  ⟨n, rfl, ⟨by omega, by omega, by omega, by omega, by omega⟩, fun q hq => by
    have e : rgV 0 n = ((List.range n.toNat).map fun i : Nat => (i : Int)).map V.int := by
      unfold rgV
      rw [Int.sub_zero, List.map_map]
      apply List.map_congr_left
      intro i _
      show V.int (0 + (i : Int)) = V.int (i : Int)
      rw [Int.zero_add]
    rw [e]; exact h q hq⟩
theorem merge {P : Hp → Prop} {G : Prop} (C : Hp → Prop) (h : (∀ H', C H' → P H') → G) (k : ∀ H', C H' → P H') : G := h k
theorem s_andp {u : TT} {σ : L2.St} {H : Hp} {QB : Bool → Hp → Prop} {k : Bool} (k2 : Bool) (hu : QB k2 H → u σ H QB) (h : QB (k && k2) H) : zIf k (u σ H QB) (QB false H) := by
  cases k
  · exact s_iff h
  · exact s_ift (hu h)
end Z

set_option Elab.async false
set_option linter.all false
set_option maxRecDepth 100000
set_option maxHeartbeats 4000000
/-! ### a lambda of one parameter handed to a method, called there -/
namespace Z
open PySem PySem.Spec PyProof.Rows NdefX
open LamX hiding Tabs
open L2 hiding Same Same.refl Same.trans Same.free Same.seq Same.made
variable [TQ]
/-- a lambda that was made before a frame began, what its cells held then -/
structure LamIn (F : NF) (body : Expr) (f : Addr) (fr : List Str) (ws : List (Option V)) (fs : List Addr) (s : Shared) (H : Hp) : Prop where
  o : ∃ pm ctv : Value, s.heap.get? f = some (PySem.W.kla_obj "<lambda>" F.qual F.params body F.scope F.cl pm F.c ctv)
  n : H f = none
  r : f ∉ fs
  c : CellsAt F.cl fr ws s.heap H
/-- cells stay, whatever is done in another frame -/
theorem cells_on {cl : List (Str × Addr)} {fr : List Str} {ws : List (Option V)} {fs : List Addr} {H H' : Hp} {h h' : Heap} (C : CellsAt cl fr ws h H) (U : Un fs [] H H' h h') : CellsAt cl fr ws h' H' := by
  have stay : ∀ y a v, cl.lookup y = some a → h.IsCell a v → h'.IsCell a v := by
    rintro y a v e ⟨o, ho, hd⟩
    obtain ⟨sl, z⟩ := U.any ho (C.all y a e).1 (by simp)
    exact ⟨_, z, hd⟩
  refine ⟨C.len, fun y a e => ?_, C.inj, fun i y e => ?_⟩
  · obtain ⟨v, hv⟩ := (C.all y a e).2
    obtain ⟨o, ho, hd⟩ := id hv
    exact ⟨U.free a o ho (C.all y a e).1 (by simp), v, stay y a v e hv⟩
  · obtain ⟨a, ea, hv⟩ := C.has i y e
    exact ⟨a, ea, fun v ev => (hv v ev).imp fun u z => ⟨z.1, stay y a _ ea z.2⟩⟩
/-- the reading of such a call -/
def tApp (i : Nat) (f : Addr) (F : NF) (lp : List V → Hp → VK → Prop) (te : TE) : TE := fun σ H Q => σ[i]? = some (some (.ref f)) ∧ tCons te tNil σ H fun vs H1 => vs.length = 1 ∧ H1 F.c = some (CodeO F.c F.qual) ∧ lp vs H1 Q
/-- a lambda's reading, by what its cells hold -/
def lpOf (N : List Str) (tb : TE) (ws : List (Option V)) : List V → Hp → VK → Prop := fun vs H Q => tb (startF N vs ws) H Q
section
variable {P : Program} {w : World} {K : PySem.W.Frag} {mg : Str → Option Value} {base : Heap} {Ng N fr : List Str} {qg x a : Str} {sg : Scope} {g f : Addr} {cdg : Value} {A : Around} {outer : List Env} {s : Shared} {H : Hp} {Eg : XK} {F : NF} {body : Expr} {ws : List (Option V)} {k i : Nat} {tb te : TE} {o ix : Expr} {p0 p1 p2 : Pos}
theorem pe_app (L : LamIn F body f fr ws (frs outer) s H) (S : NScope N [x] fr F.scope) (hb : ∀ (pm ctv u : Value), bindArgs (PySem.W.kla_fn "<lambda>" F.qual F.params body F.scope F.cl pm (.ref F.c) ctv) ⟨[u], []⟩ = pure [(x, u)])
    (hr : Room (k + 1) (A.deeper (envOfC qg sg s.heap.objs.size g cdg))) (hbody : ∀ (A : Around) (outer : List Env) (s : Shared) (H : Hp), Room k (A.deeper (envF F f s.heap.objs.size)) → PE (ncx (L2.CX P w) P w K mg base N F f A outer s H (fun _ _ _ => False)) body tb)
    (hN : Ng[i]? = some a) (hv : Vis sg a) (hd : (a == ("__debug__" : Str)) = false) (hcd : (a == ("__classdict__" : Str)) = false)
    (he : PE (cxOf (L2.CX P w) P w K mg base Ng qg sg g cdg A outer s H Eg) (.Subscript o ix p0) te) : PE (cxOf (L2.CX P w) P w K mg base Ng qg sg g cdg A outer s H Eg) (.Call (.Name a p1) [.Subscript o ix p0] [] p2) (tApp i f F (lpOf N tb ws) te) := by
  refine ⟨fun pins s1 σ H1 Q I h => ?_⟩
  obtain ⟨hσ, ht⟩ := h
  have there : ∀ {σ' H' s'}, Inv (cxOf (L2.CX P w) P w K mg base Ng qg sg g cdg A outer s H Eg) pins σ' H' s' → ∃ pm ctv : Value, s'.heap.get? f = some (PySem.W.kla_obj "<lambda>" F.qual F.params body F.scope F.cl pm F.c ctv) := fun {σ' H' s'} J => by
    obtain ⟨pm, ctv, e⟩ := L.o
    exact ⟨pm, ctv, J.base.keep f _ e L.n L.r fun z => nomatch (show f ∈ ([] : List Addr) from z)⟩
  refine wpAny_Call_Name_kw (thn ((pe_var (pos := p1) hN hv hd hcd).run pins s1 σ H1 (fun v H2 => v = .ref f ∧ H2 = H1) I ⟨.ref f, hσ, rfl, rfl⟩) fun u s2 z => ?_)
  obtain ⟨v, H2, I2, r2, e1, e2⟩ := z
  subst e1
  subst e2
  obtain rfl : u = Value.ref f := r2
  obtain ⟨pm, ctv, o2⟩ := there I2
  refine PySem.W.callWith_F (first := []) ⟨_, _, _, _, o2⟩ (thn ((pa_cons he pa_nil).run p2 pins s2 σ H2 _ I2 ht) fun us s3 z => ?_) (by rfl) (by rfl)
  obtain ⟨vs, H3, I3, r3, q3⟩ := z
  obtain ⟨pm3, ctv3, o3⟩ := there I3
  refine ⟨⟨_, _, _, _, o3⟩, ?_⟩
  show wpAny _ _ (call (.ref f) us) _ _ _
  obtain ⟨hl, hc, q⟩ := q3
  match vs, hl, r3, q with
  | [v], _, .cons ru .nil, q =>
    rename_i u
    have e0 := I3.env0
    have C3 : CellsAt F.cl fr ws s3.heap H3 := cells_on L.c I3.base
    have rc : codeAny (model P w) (A.deeper (envOfC qg sg s.heap.objs.size g cdg)) (.call (.ref f) ⟨[u], []⟩) (CR (L2.CX P w) (envOfC qg sg s.heap.objs.size g cdg :: outer) P w H3 s3 Q (fun _ _ _ => False)) s3 := by
      refine PySem.W.kla_callFunE hr.depth o3 rfl S.co S.gen rfl (codeO_at I3.hok hc) ?_
      rw [hb]
      refine wpAny_pure (wpAny_newFunctionEnv S.nocell (fun y hy => ?_) (fun h1 hns hsb => ⟨I3.nolimit.fresh _ hsb, ?_⟩) S.kind)
      · rw [List.mem_singleton.mp hy]
        exact S.par x List.mem_cons_self
      · show codeAny _ _ (.expr body (envF F f s3.heap.objs.size)) _ _
        have kp : ∀ b ob, s3.heap.get? b = some ob → h1.get? b = some ob := fun b ob e => hsb.extBut b ob (Nat.ne_of_lt (Heap.lt_size e)) (Heap.get?_push_of_some _ e)
        have J := inv_startN (CX := L2.CX P w) (E := fun _ _ _ => False) (f := f) (N := N) (vs := [v]) (us := [u]) (tk := s3.toks + ([(x, u)] : List (Str × Value)).length) S hr.hd e0 rfl (.cons ru .nil) C3 hns kp
        refine PySem.W.kla_codeExpr (wpAny_mono ((hbody _ _ s3 H3 (hr.deeper _)).run [] _ _ H3 Q J q) (fun v' s' z => ?_) fun e s' z => z)
        obtain ⟨w', H', J', rv, z⟩ := z
        exact ⟨w', H', J'.os, J'.bare, J'.base, J'.hok, rv, z⟩
    refine wpAny_call (codeAny_mono rc fun r s' z => ?_)
    cases r with
    | error e => exact passF pins σ H3 s3 e s' I3 z
    | ok fl =>
      cases fl with
      | ret u' => exact I3.after z
      | next => exact False.elim z
      | brk => exact False.elim z
      | cont => exact False.elim z
end
/-- a table and a new code object behind it -/
theorem same_tab {H : Hp} {P c : Addr} {ps more : Array Value} (hP : H P = some (.tbl ps)) (nC : H c = none) (hg : TabG H P → TabG (upd (upd H P (.tbl (ps ++ more))) c (CodeO c (TQ.q P))) P) : Same H (upd (upd H P (.tbl (ps ++ more))) c (CodeO c (TQ.q P))) := by
  have nPc : P ≠ c := ne_of_none hP nC
  have stay : ∀ b o, H b = some o → b ≠ P → upd (upd H P (.tbl (ps ++ more))) c (CodeO c (TQ.q P)) b = some o := fun b o e n => (upd_ne (ne_of_none e nC)).trans ((upd_ne n).trans e)
  have codes : ∀ b q, H b = some (CodeO b q) → b ≠ P := fun b q e z => by
    rw [z, hP] at e
    exact codeO_ne _ (Option.some.inj e).symm
  refine ⟨fun b o e n => stay b o e fun z => ?_, fun b qs e => ?_, fun b t => ?_⟩
  · subst z
    cases hP.symm.trans e
    cases n
  · by_cases z : b = P
    · subst z
      exact ⟨ps ++ more, (upd_ne nPc).trans upd_same⟩
    · exact ⟨qs, stay b _ e z⟩
  · by_cases z : b = P
    · subst z
      exact hg t
    · obtain ⟨qs, t1, t2, t3⟩ := t
      exact ⟨qs, stay b _ t1 z, t2, fun pos cv hc => (t3 pos cv hc).imp fun d k => ⟨k.1, stay d _ k.2 (codes d _ k.2)⟩⟩
/-- a lambda is made: what is known of it -/
theorem lam_mk {X : Cx} {pins : List (Addr × Obj)} {σ : L2.St} {H : Hp} {s : Shared} {c P : Addr} {params : Arguments} {body : Expr} {scope : Scope} {pos : Pos} {E Q : Value → Shared → Prop} (I : Inv X pins σ H s) (TB : TabB X.base X.mg c P) (hcode : X.env.code = .ref c) (hq : TQ.q P = X.env.qual ++ "<lambda>")
    (hT : TabG H P) (hdef : defaultsOf params X.env = ([], [])) (hfree : ∀ y ∈ scope.names, y.2 = .free → ∃ d, X.env.cells.lookup y.1 = some d)
    (go : ∀ (f d : Addr) (pm ctv : Value) (H' : Hp) (s' : Shared), Inv X pins σ H' s' → Same H H' → TabG H' P → s'.heap.get? f = some (PySem.W.kla_obj "<lambda>" (X.env.qual ++ "<lambda>") params body scope (cloFrom X.env.cells scope.names []) pm d ctv) → H' f = none → f ∉ frs X.stack → H' d = some (CodeO d (TQ.q P)) → Q (.ref f) s') :
    wpAny (model X.prog X.w) X.A (eval (.Lambda params body scope pos) X.env) Q E s := by
  have hT0 := hT
  obtain ⟨ps, hP, ok, tells⟩ := hT0
  have inHeap : s.heap.get? P = some { cls := .none, data := .fields ps } := I.hok P _ hP
  have far : ∀ f : Addr, s.heap.objs.size ≤ f → f ∉ frs X.stack := by
    intro f hf hm
    have hm := I.stkSub _ hm
    cases hm with
    | head => exact Nat.lt_irrefl _ (Nat.lt_of_lt_of_le I.lt hf)
    | tail _ hm => exact I.nofs hf hm
  apply PySem.W.kla_eval hdef
  cases e : codeAmong pos ps.toList with
  | some v =>
    obtain ⟨d, rfl, hd⟩ := tells pos v e
    apply PySem.W.kla_makeFunctionHit (mg := X.mg) (c := c) (P := P) (ps := ps) (closure_ok hfree) I.ok.glob (I.mod.glob.keeps I.bk) hcode (TB.code.keeps I.bk) inHeap ok e (TB.bm.keeps I.bk)
    intro ctv h1 tk hx hsz
    exact go _ d _ ctv H _ (I.kept fun b o z => Heap.get?_push_of_some _ (hx b o z)) (.refl H) hT (Heap.get?_push_size _ rfl) (I.hok.fresh hsz) (far _ hsz) hd
  | none =>
    apply PySem.W.kla_makeFunction (mg := X.mg) (c := c) (P := P) (ps := ps) (closure_ok hfree) I.ok.glob (I.mod.glob.keeps I.bk) hcode (TB.code.keeps I.bk) inHeap ok e TB.gP (TB.bm.keeps I.bk)
    intro d ctv h1 tk hx hge hlt hrec htb
    obtain ⟨d', oc, vs, t, ed, hoc, hd, hv⟩ := hrec
    cases ed
    have nD : H d = none := I.hok.fresh hge
    have big : s.heap.objs.size ≤ h1.objs.size := Nat.le_trans hge (Nat.le_of_lt hlt)
    have I1 := inv_table (q := TQ.q P) (t' := tk) (more := #[rawInt pos.line, rawInt pos.col, .ref d]) (h' := h1.push (PySem.W.kla_obj "<lambda>" (X.env.qual ++ "<lambda>") params body scope (cloFrom X.env.cells scope.names []) ((X.mg "__name__").getD .none) d ctv)) I hP
      (fun b o n z => Heap.get?_push_of_some _ (hx b o n z)) (Heap.get?_push_of_some _ htb) hge ⟨oc, vs, t, Heap.get?_push_of_some _ hoc, hd, by rw [hq]; exact hv⟩
    have nPd : P ≠ d := ne_of_none hP nD
    have hg : TabG (upd (upd H P (.tbl (ps ++ #[rawInt pos.line, rawInt pos.col, .ref d]))) d (CodeO d (TQ.q P))) P := by
      have el : (ps ++ #[rawInt pos.line, rawInt pos.col, Value.ref d]).toList = ps.toList ++ [rawInt pos.line, rawInt pos.col, .ref d] := by simp
      refine ⟨_, (upd_ne nPd).trans upd_same, by rw [el]; exact PySem.TriplesOk_snoc _ _ _ _ ok, fun p' v hv' => ?_⟩
      rw [el] at hv'
      cases among_app _ ok hv' with
      | inl z =>
        obtain ⟨x, e1, e2⟩ := tells p' v z
        have nxP : x ≠ P := fun z => by
          rw [z, hP] at e2
          exact codeO_ne _ (Option.some.inj e2).symm
        exact ⟨x, e1, (upd_ne (ne_of_none e2 nD)).trans ((upd_ne nxP).trans e2)⟩
      | inr z => exact ⟨d, z, upd_same⟩
    refine go _ d _ ctv _ _ I1 (same_tab hP nD fun _ => hg) hg (Heap.get?_push_size _ rfl) ?_ (far _ big) upd_same
    rw [upd_ne (Nat.ne_of_gt hlt), upd_ne (Nat.ne_of_gt (Nat.lt_of_lt_of_le (Heap.lt_size inHeap) big))]
    exact I.hok.fresh big
/-- o.m(lambda x: ..): sp, what the method promises of such a lambda; P, the table of what makes it -/
def tMethL (C : Addr) (m : Str) (P : Addr) (sp : NF → (List V → Hp → VK → Prop) → V → Hp → VK → XK → Prop) (N : List Str) (tb : TE) (js : List Nat) (E : L2.St → XK) (to : TE) : TE := fun σ H Q => to σ H fun x H1 => zSelf C m x H1 (TabG H1 P ∧
  ∀ (F : NF) (H2 : Hp), Same H1 H2 → TabG H2 P → H2 F.c = some (CodeO F.c F.qual) → sp F (lpOf N tb (js.map (slotAt σ))) x H2 Q (E σ))
def zLam (P : Addr) (H1 : Hp) (sp : NF → Hp → Prop) : Prop := TabG H1 P ∧ ∀ (F : NF) (H2 : Hp), Same H1 H2 → TabG H2 P → H2 F.c = some (CodeO F.c F.qual) → sp F H2
theorem s_methL {C : Addr} {m : Str} {P : Addr} {sp : NF → (List V → Hp → VK → Prop) → V → Hp → VK → XK → Prop} {N : List Str} {tb : TE} {js : List Nat} {W : WX} {to : TE} {σ : L2.St} {H : Hp} {Q : VK} (h : to σ H fun x H1 => zSelf C m x H1 (zLam P H1 fun F H2 => sp F (lpOf N tb (js.map (slotAt σ))) x H2 Q (WE W σ))) : tMethL C m P sp N tb js (WE W) to σ H Q := h
theorem s_zlam {P : Addr} {H1 : Hp} {sp : NF → Hp → Prop} (h1 : TabG H1 P) (h : ∀ (F : NF) (H2 : Hp), Same H1 H2 → TabG H2 P → H2 F.c = some (CodeO F.c F.qual) → sp F H2) : zLam P H1 sp := ⟨h1, h⟩
theorem pe_methL {X : Cx} {o : Expr} {to : TE} {C g c P : Addr} {m nm qual a : Str} {pg : Arguments} {bg : List Stmt} {sg : Scope} {oc kV doc pm cdv ct : Value} {od an : Option Addr} {osl : Array (Option Value)} {Ng N fr : List Str} {js : List Nat} {params : Arguments} {body : Expr} {scope : Scope} {lpos apos pos : Pos} {k : Nat} {tb : TE} {E : L2.St → XK} {pl : Sem Bool}
    {sp : NF → (List V → Hp → VK → Prop) → V → Hp → VK → XK → Prop} (ho : PE X o to) (cl : Cls X.K C) (hm : Meth X.K C m g) (lk : X.K.lookup g = some ⟨oc, od, .func (PySem.W.fnOf nm qual pg bg sg .none kV doc pm an cdv ct), osl⟩) (hcd : PySem.W.codeIn X.K cdv qual = true) (Sg : FnScope Ng ["self", a] sg)
    (hb : L2.Binds X.K (PySem.W.fnOf nm qual pg bg sg .none kV doc pm an cdv ct) ["self", a] []) (TB : TabB X.base X.mg c P) (hcode : X.env.code = .ref c) (hq : TQ.q P = X.env.qual ++ "<lambda>") (hdef : defaultsOf params X.env = ([], []))
    (hfree : ∀ y ∈ scope.names, y.2 = .free → X.env.scope.names.lookup y.1 = some .cell ∨ X.env.scope.names.lookup y.1 = some .free) (hfr : ∀ y ∈ fr, (y, NameKind.free) ∈ scope.names) (hjs : js.map (fun j => X.N[j]?) = fr.map some) (hr : Room (k + 1) X.A) (hx : ∀ σ, PassesAt (L2.CX X.prog X.w) X σ (E σ))
    (HB : ∀ (F : NF) (f : Addr) (s : Shared) (H : Hp) (ws : List (Option V)) (v : V) (Q : VK) (E : XK), F.qual = X.env.qual ++ "<lambda>" → F.params = params → F.scope = scope → LamIn F body f fr ws (frs X.stack) s H → Room k (X.A.deeper (envOfC qual sg s.heap.objs.size g cdv)) → sp F (lpOf N tb ws) v H Q E →
      ∃ t, PSs (cxOf (L2.CX X.prog X.w) X.prog X.w X.K X.mg X.base Ng qual sg g cdv X.A X.stack s H E) bg t ∧ t { nx := fun _ H' => Q .non H', rt := Q } (L2.start Ng [v, .ref f]) H)
    (ht : eval (.Call (.Attribute o m apos) [.Lambda params body scope lpos] [] pos) X.env = (do
      let ov ← eval o X.env
      standAt apos.atName
      let (f, first) ← holding [ov] (getMethod ov m pl)
      callWith pos f first (backTo pos (starEach [.Lambda params body scope lpos] X.env)) (backToKw pos (keywordEach [] X.env))) := by rfl) :
    PE X (.Call (.Attribute o m apos) [.Lambda params body scope lpos] [] pos) (tMethL C m P sp N tb js E to) := by
  refine ⟨fun pins s σ H Q I h => ?_⟩
  refine PySem.W.methodCall_KW (pl := pl) (thn (ho.run pins s σ H _ I h) fun u s1 z => ?_) ht
  obtain ⟨x0, H1, I1, rx, b, dx, fs, ex, eb, l, hT, q⟩ := z
  subst ex
  obtain rfl : u = Value.ref b := rx
  refine getmeth_ok I1 eb cl hm l ?_
  refine PySem.W.callWith_K (first := [.ref b]) (h₀ := X.base) I1.ok.mod.kin hm.kp ?_ (by rfl) (by rfl)
  show wpAny _ _ (spliced ((false, eval (.Lambda params body scope lpos) X.env) :: backTo pos (starEach [] X.env))) _ _ s1
  have hcells : ∀ y ∈ scope.names, y.2 = .free → ∃ c, X.env.cells.lookup y.1 = some c := fun y hy e => (hfree y hy e).elim (fun z => I1.ok.has _ (.inl z)) fun z => I1.ok.has _ (.inr z)
  refine Calls.spliced_cons (lam_mk I1 TB hcode hq hT hdef hcells fun f c' pm' ctv H2 s2 I2 eN T2 hf hfn hff hco => ?_)
  refine Calls.spliced_nil ⟨I2.kIn, ?_⟩
  have cp : Caps X (cloFrom X.env.cells scope.names []) fr js := Caps.made I2.ok hfree hfr hjs
  have CL := cells_of I2 cp
  have rc : codeAny (model X.prog X.w) X.A (.call (.ref g) ⟨[.ref b, .ref f], []⟩) (CR (L2.CX X.prog X.w) X.stack X.prog X.w H2 s2 Q (E σ)) s2 := by
    have bt := hb s2 [.ref b, .ref f] I2.kIn rfl
    refine run_ofS (N := Ng) (ps := ["self", a]) (us := [.ref b, .ref f]) (vs := [.ref b, .ref f]) lk hcd Sg hr I2.env0 bt (.cons rfl (.cons rfl .nil)) rfl fun hr' => ?_
    exact HB ⟨"<lambda>", X.env.qual ++ "<lambda>", params, [], scope, cloFrom X.env.cells scope.names [], c'⟩ f s2 H2 _ (.ref b) Q (E σ) rfl rfl rfl ⟨⟨pm', ctv, hf⟩, hfn, hff, CL⟩ hr' (q ⟨"<lambda>", X.env.qual ++ "<lambda>", params, [], scope, cloFrom X.env.cells scope.names [], c'⟩ H2 eN T2 (by rw [← hq]; exact hco))
  refine wpAny_call (codeAny_mono rc fun r s' z => ?_)
  cases r with
  | error e => exact hx σ pins H2 s2 e s' I2 z
  | ok fl =>
    cases fl with
    | ret u' => exact I2.after z
    | next => exact False.elim z
    | brk => exact False.elim z
    | cont => exact False.elim z

theorem pe_methLF {X : Cx} {o : Expr} {to : TE} {C g c P : Addr} {m nm qual a : Str} {st : Stmt} {fd : FuncData} {Ng N fr : List Str} {js : List Nat} {params : Arguments} {body : Expr} {scope : Scope} {lpos apos pos : Pos} {k : Nat} {tb : TE} {E : L2.St → XK} {pl : Sem Bool}
    {sp : NF → (List V → Hp → VK → Prop) → V → Hp → VK → XK → Prop} (ho : PE X o to) (cl : Cls X.K C) (hm : Meth X.K C m g) (F : L2.Fun X.K nm qual st g fd) (Sg : FnScope Ng ["self", a] (defScope st)) (hb : L2.Binds X.K fd ["self", a] [])
    (TB : TabB X.base X.mg c P) (hcode : X.env.code = .ref c) (hq : TQ.q P = X.env.qual ++ "<lambda>") (hdef : defaultsOf params X.env = ([], []))
    (hfree : ∀ y ∈ scope.names, y.2 = .free → X.env.scope.names.lookup y.1 = some .cell ∨ X.env.scope.names.lookup y.1 = some .free) (hfr : ∀ y ∈ fr, (y, NameKind.free) ∈ scope.names) (hjs : js.map (fun j => X.N[j]?) = fr.map some) (hr : Room (k + 1) X.A) (hx : ∀ σ, PassesAt (L2.CX X.prog X.w) X σ (E σ))
    (HB : ∀ (cdv : Value) (F : NF) (f : Addr) (s : Shared) (H : Hp) (ws : List (Option V)) (v : V) (Q : VK) (E : XK), F.qual = X.env.qual ++ "<lambda>" → F.params = params → F.scope = scope → LamIn F body f fr ws (frs X.stack) s H → Room k (X.A.deeper (envOfC qual (defScope st) s.heap.objs.size g cdv)) → sp F (lpOf N tb ws) v H Q E →
      ∃ t, PSs (cxOf (L2.CX X.prog X.w) X.prog X.w X.K X.mg X.base Ng qual (defScope st) g cdv X.A X.stack s H E) (defBody st) t ∧ t { nx := fun _ H' => Q .non H', rt := Q } (L2.start Ng [v, .ref f]) H)
    (ht : eval (.Call (.Attribute o m apos) [.Lambda params body scope lpos] [] pos) X.env = (do
      let ov ← eval o X.env
      standAt apos.atName
      let (f, first) ← holding [ov] (getMethod ov m pl)
      callWith pos f first (backTo pos (starEach [.Lambda params body scope lpos] X.env)) (backToKw pos (keywordEach [] X.env))) := by rfl) :
    PE X (.Call (.Attribute o m apos) [.Lambda params body scope lpos] [] pos) (tMethL C m P sp N tb js E to) := by
  obtain ⟨oc, od, kV, doc, pm, an, cdv, ct, osl, rfl, lk, hcd⟩ := F.ex
  exact pe_methL ho cl hm lk hcd Sg hb TB hcode hq hdef hfree hfr hjs hr hx (HB cdv) ht
/-- a def whose code object is told -/
theorem okC {P : Program} {w : World} {K : PySem.W.Frag} {mg : Str → Option Value} {base : Heap} {x qual : Str} {st : Stmt} {f c : Addr} {fd : FuncData} {N ps : List Str} {k : Nat} {sp : Sp} (F : L2.Fun K x qual st f fd) (hc : fd.code = .ref c) (S : FnScope N ps (defScope st)) (len : ∀ vs H Q E, sp vs H Q E → vs.length = ps.length)
    (hbody : ∀ (A : Around) (outer : List Env) (s : Shared) (H : Hp) (vs : List V) (Q : VK) (E : XK), Room k (A.deeper (envOfC qual (defScope st) s.heap.objs.size f (.ref c))) → sp vs H Q E →
      ∃ t, PSs (cxOf (L2.CX P w) P w K mg base N qual (defScope st) f (.ref c) A outer s H E) (defBody st) t ∧ t { nx := fun _ H' => Q .non H', rt := Q } (L2.start N vs) H) : FnOk P w K mg base (L2.CX P w) (k + 1) f fd ps sp := by
  obtain ⟨oc, od, kV, doc, pm, an, cdv, ct, osl, rfl, lk, hcd⟩ := F.ex
  obtain rfl : cdv = Value.ref c := hc
  exact fn_of lk hcd S len hbody
/-- what is told of a heap holds of it with a list of it locked -/
theorem hok_frz {P : Program} {w : World} {H : Hp} {h : Heap} {a : Addr} {xs : List V} {o : Obj} (hok : HOk P w H h) (ha : H a = some (.lst xs)) (ho : h.get? a = some o) : HOk P w (upd H a (.frz o (.lst xs))) h := by
  have other : ∀ b u, b ≠ a → H b = some u → upd H a (.frz o (.lst xs)) b = some u := fun b u n e => (upd_ne n).trans e
  have st : ∀ b u, ObjOk P w H h b u → ObjOk P w (upd H a (.frz o (.lst xs))) h b u := fun b u z => z.stay (fun _ _ _ q => q) (fun d q => other d _ (ne_of q ha (by simp)) q) fun d ys q => other d _ (ne_of q ha (by simp)) q
  intro b u e
  by_cases n : b = a
  · subst n
    rw [upd_same] at e
    cases e
    exact ⟨ho, st _ _ (hok _ _ ha)⟩
  · rw [upd_ne n] at e
    exact st b u (hok b u e)
theorem hok_thaw {P : Program} {w : World} {H : Hp} {h : Heap} {a : Addr} {xs : List V} {o : Obj} (hok : HOk P w H h) (ha : H a = some (.frz o (.lst xs))) : HOk P w (upd H a (.lst xs)) h := by
  have other : ∀ b u, b ≠ a → H b = some u → upd H a (.lst xs) b = some u := fun b u n e => (upd_ne n).trans e
  have st : ∀ b u, ObjOk P w H h b u → ObjOk P w (upd H a (.lst xs)) h b u := fun b u z => z.stay (fun _ _ _ q => q) (fun d q => other d _ (ne_of q ha (by simp)) q) fun d ys q => other d _ (ne_of q ha (by simp)) q
  intro b u e
  by_cases n : b = a
  · subst n
    rw [upd_same] at e
    cases e
    exact st _ _ (hok _ _ ha).2
  · rw [upd_ne n] at e
    exact st b u (hok b u e)
/-- a promise of a locked list is one of a list that nobody writes -/
theorem fn_frz {P : Program} {w : World} {K : PySem.W.Frag} {mg : Str → Option Value} {base : Heap} {k : Nat} {f : Addr} {fd : FuncData} {ps : List Str} {sp sp' : Sp} (F : FnOk P w K mg base (L2.CX P w) k f fd ps sp) (len : ∀ vs H Q E, sp' vs H Q E → vs.length = ps.length)
    (hsp : ∀ vs H Q E, sp' vs H Q E → sp vs H Q (fun _ _ _ => False) ∨ ∃ a xs, H a = some (.lst xs) ∧ ∀ o, sp vs (upd H a (.frz o (.lst xs))) (fun v H' => Q v (upd H' a (.lst xs))) fun _ _ _ => False) : FnOk P w K mg base (L2.CX P w) k f fd ps sp' := by
  have noX : ∀ {outer : List Env} {H : Hp} {s : Shared} {e : Value} {s' : Shared}, ¬ L2.CX P w outer H s (fun _ _ _ => False) e s' := by
    intro outer H s e s' z
    obtain ⟨_, _, _, _, _, _, _, _, _, _, _, _, z⟩ := z
    exact z
  refine ⟨len, fun A outer s H args us vs Q E hr e0 hb hv h => ?_⟩
  rcases hsp vs H Q E h with h | ⟨a, xs, ha, h⟩
  · refine codeAny_mono (F.run A outer s H args us vs Q _ hr e0 hb hv h) fun r s' z => ?_
    cases r with
    | error e => exact absurd z noX
    | ok fl => cases fl <;> exact z
  · obtain ⟨_, its, n, _, ho⟩ := e0.hok a _ ha
    have e1 : Env0 P w K mg base A outer s (upd H a (.frz _ (.lst xs))) := ⟨e0.frames, e0.mod, fun b o e => ⟨(e0.bs b o e).1, (upd_ne (fun z => by
      have q := (e0.bs b o e).2
      rw [z, ha] at q
      cases q)).trans (e0.bs b o e).2⟩, e0.bsz, e0.funs, fun b hb => (upd_ne (fun z => by
      have q := e0.frf b hb
      rw [z, ha] at q
      cases q)).trans (e0.frf b hb), hok_frz e0.hok ha ho, e0.bare⟩
    refine codeAny_mono (F.run A outer s _ args us vs _ _ hr e1 hb hv (h _)) fun r s' z => ?_
    cases r with
    | error e => exact absurd z noX
    | ok fl =>
      cases fl with
      | ret u =>
        obtain ⟨v, H', os, bare, un, hok', rv, q⟩ := z
        have ha' := un.frzs a _ _ upd_same
        have far : ∀ {b : Addr} {u : HO}, H b = some u → b ≠ a → upd H a (.frz { cls := .type "list", data := .seq its.toArray n } (.lst xs)) b = some u := fun e n => (upd_ne n).trans e
        have nil : ∀ {b : Addr}, H b = none → b ≠ a := fun e z => by rw [z, ha] at e; cases e
        refine ⟨v, _, os, bare, ⟨fun b o e1 e2 => un.keep b o e1 ((upd_ne (nil e2)).trans e2), fun b o e1 e2 => un.slot b o e1 ((upd_ne (nil e2)).trans e2), fun b o e1 e2 e3 => (upd_ne (nil e2)).trans (un.free b o e1 ((upd_ne (nil e2)).trans e2) e3), un.there, fun b ys e => ?_, fun b o u e => ?_, fun b qs e => ?_⟩, hok_thaw hok' ha', rv, q⟩
        · have n := ne_of e ha (by simp)
          exact (upd_ne n).trans (un.tups b ys (far e n))
        · have n := ne_of e ha (by simp)
          exact (upd_ne n).trans (un.frzs b o u (far e n))
        · have n := ne_of e ha (by simp)
          obtain ⟨more, z⟩ := un.tbls b qs (far e n)
          exact ⟨more, (upd_ne n).trans z⟩
      | next => exact z
      | brk => exact z
      | cont => exact z

theorem code_of {K : PySem.W.Frag} {x qual : Str} {st : Stmt} {p : Str × Option Str} {fd : FuncData} (F : L2.Fun K x qual st (He.fAd K p) fd) : fd.code = .ref (He.cT K p).1 := by
  obtain ⟨oc, od, kV, doc, pm, an, cdv, ct, osl, rfl, lk, hcd⟩ := F.ex
  obtain ⟨c, rfl⟩ := He.codeIn_ref hcd
  show Value.ref c = .ref (He.codeOf K p)
  rw [He.codeOf_eq lk rfl]
def freeB (sc scope : Scope) : Bool := scope.names.all fun y => !decide (y.2 = .free) || decide (sc.names.lookup y.1 = some .cell) || decide (sc.names.lookup y.1 = some .free)
theorem lam_free {sc scope : Scope} (h : freeB sc scope = true) : ∀ y ∈ scope.names, y.2 = .free → sc.names.lookup y.1 = some .cell ∨ sc.names.lookup y.1 = some .free := fun y hy e => by
  have z := List.all_eq_true.mp h y hy
  simp only [Bool.or_eq_true, Bool.not_eq_true', decide_eq_true_eq, decide_eq_false_iff_not] at z
  rcases z with (z | z) | z
  · exact absurd e z
  · exact .inl z
  · exact .inr z

def zApp (F : NF) (lp : List V → Hp → VK → Prop) (vs : List V) (H1 : Hp) (Q : VK) : Prop := vs.length = 1 ∧ H1 F.c = some (CodeO F.c F.qual) ∧ lp vs H1 Q
theorem s_tApp {i : Nat} {f : Addr} {F : NF} {lp : List V → Hp → VK → Prop} {te : TE} {σ : L2.St} {H : Hp} {Q : VK} (h : tCons te tNil σ H fun vs H1 => zApp F lp vs H1 Q) (hσ : σ[i]? = some (some (.ref f)) := by rfl) : tApp i f F lp te σ H Q := ⟨hσ, h⟩
theorem s_zapp {F : NF} {lp : List V → Hp → VK → Prop} {v : V} {H1 : Hp} {Q : VK} (h1 : H1 F.c = some (CodeO F.c F.qual)) (h : lp [v] H1 Q) : zApp F lp [v] H1 Q := ⟨rfl, h1, h⟩
end Z
set_option Elab.async false
set_option linter.all false
set_option maxRecDepth 100000
set_option maxHeartbeats 4000000
/-! ### texts: signs, replace, comprehensions behind a token -/
namespace Z
open PySem PySem.Spec PyProof.Rows
open L2 hiding Same Same.refl Same.trans Same.free Same.seq Same.made
variable [TQ]
section
variable {X : Cx}
def rInSg : R2 := fun x y H Q => ∃ (c : Nat) (z : Str), x = .str ⟨#[c]⟩ ∧ y = .str z ∧ Q (.bl (decide (c ∈ z.cps.toList))) H
def rNotInSg : R2 := fun x y H Q => ∃ (c : Nat) (z : Str), x = .str ⟨#[c]⟩ ∧ y = .str z ∧ Q (.bl (!decide (c ∈ z.cps.toList))) H
theorem op_in_sign' : OpR X (compareOp .In) rInSg := op_in_sign
theorem op_notIn_sign' : OpR X (compareOp .NotIn) rNotInSg := op_notIn_sign
def rIntS : List V → Hp → VK → Prop := fun xs H Q => ∃ a n, xs = [.str a] ∧ PySem.intText? a = some n ∧ a.length ≤ 640 ∧ Q (.int n) H
theorem call_intS' : CallR X (.type "int") rIntS := call_int_str
variable {σ : L2.St} {H : Hp} {Q : VK} {c : Nat} {z a : Str} {n : Int}
theorem s_inSg (h : Q (.bl (decide (c ∈ z.cps.toList))) H) : rInSg (.str ⟨#[c]⟩) (.str z) H Q := ⟨c, z, rfl, rfl, h⟩
theorem s_notInSg (h : Q (.bl (!decide (c ∈ z.cps.toList))) H) : rNotInSg (.str ⟨#[c]⟩) (.str z) H Q := ⟨c, z, rfl, rfl, h⟩
theorem s_intS (h1 : PySem.intText? a = some n) (h2 : a.length ≤ 640) (h : Q (.int n) H) : rIntS [.str a] H Q := ⟨a, n, rfl, h1, h2, h⟩
end
def zItS (v : V) (H : Hp) (R : It → Hp → Prop) : Prop := ∃ x, v = .str x ∧ R (Its x) H
/-- a comprehension, a token being out -/
theorem pet_lc {X : Cx} {elt tg iter : Expr} {ifs : List Expr} {scope : Scope} {own : List (Str × Nat)} {pos : Pos} {wi : TI} {g : TG} {tt : TT} {te : TE} (hc : X.calm = true) (hN : X.N.Nodup) (hi : PIT X tg iter wi) (ok : BlkOk X.N X.env.scope scope own)
    (pg : ∀ (s0 : Shared) (H0 : Hp) (L : Addr) (cs : List (Str × Addr)) (it : List Addr), PG (X.blk s0 H0 scope (compEnvC scope cs L X.env) it) tg g) (pt : ∀ (s0 : Shared) (H0 : Hp) (L : Addr) (cs : List (Str × Addr)) (it : List Addr), PTs (X.blk s0 H0 scope (compEnvC scope cs L X.env) it) ifs tt)
    (pe : ∀ (s0 : Shared) (H0 : Hp) (L : Addr) (cs : List (Str × Addr)) (it : List Addr), PE (X.blk s0 H0 scope (compEnvC scope cs L X.env) it) elt te) (hs : ∀ x, foldedSetIterable iter X.env x = pure x := by intro _; rfl) :
    PET X (.ListComp elt [⟨tg, iter, ifs, 0⟩] scope pos) (tLc wi g tt te (own.map (·.2))) := by
  intro pins s σ H Q h0 I h
  rw [eval_ListComp]
  have caps : ∀ y ∈ scope.names, y.2 = .free → ∃ d, X.env.cells.lookup y.1 = some d := by
    intro y hy e
    exact (ok.free y hy e).elim (fun k => I.ok.has _ (.inl k)) fun k => I.ok.has _ (.inr k)
  apply wpAny_comprehension_free (use := none) rfl hs (closure_ok caps) ok.kind (fun y hy e => by rw [ok.uniq y hy, e])
  refine thn (hi pins s σ H _ h0 I h) fun xv sA hA => thn hA fun iv sB hB => ?_
  obtain ⟨it, fp, tn, J, HB, rfl, IB, TU, stB, fB, q⟩ := hB
  refine wpAny_newObj_type (newEnv_comp ?_) (by show 0 ≤ sizeLine; decide)
  obtain ⟨D, hD⟩ : ∃ D, sB.heap.objs.size = D := ⟨_, rfl⟩
  rw [hD]
  have freeD : HB D = none := IB.hok.fresh (Nat.le_of_eq hD)
  obtain ⟨W, ⟨m0, w0⟩, turn⟩ := q D freeD
  obtain ⟨sC, eC⟩ : ∃ sC : Shared, ({ sB with heap := sB.heap.push { cls := .type "list", data := .seq ([] : List Value).toArray } } : Shared) = sC := ⟨_, rfl⟩
  rw [eC]
  have hpC : sC.heap = sB.heap.push { cls := .type "list", data := .seq ([] : List Value).toArray } := by rw [← eC]
  have IC : Inv X pins σ (upd HB D (.lst [])) sC := by
    subst eC
    exact IB.laid (t' := sB.toks) (fun b o e => Heap.get?_push_of_some _ e) (Nat.le_of_eq hD) ⟨Nat.zero_le _, [], 0, .nil, by subst hD; exact Heap.get?_push_size _ rfl⟩
  have small : ∀ b ∈ fp, b < sB.heap.objs.size := fun b hb => (TU.obj _ _ stB b hb).elim fun o z => Heap.lt_size z.1
  have fC : ∀ b ∈ fp, FpOk X pins (upd HB D (.lst [])) b ∧ b < sC.heap.objs.size := by
    intro b hb
    refine ⟨⟨(upd_ne (by subst hD; exact Nat.ne_of_lt (small b hb))).trans (fB b hb).1, (fB b hb).2⟩, ?_⟩
    rw [hpC, Heap.size_push]
    exact Nat.lt_succ_of_lt (small b hb)
  have stC : tn 0 sC.heap := TU.keep _ _ _ stB fun b _ o e => by
    rw [hpC]
    exact Heap.get?_push_of_some _ e
  have IE := block_start IC ok hN fC
  have g1 := pg sC (upd HB D (.lst [])) sC.heap.objs.size (cellsFrom (sC.heap.objs.size + 1) scope.names (cloFrom X.env.cells scope.names [])) fp
  have t1 := pt sC (upd HB D (.lst [])) sC.heap.objs.size (cellsFrom (sC.heap.objs.size + 1) scope.names (cloFrom X.env.cells scope.names [])) fp
  have e1 := pe sC (upd HB D (.lst [])) sC.heap.objs.size (cellsFrom (sC.heap.objs.size + 1) scope.names (cloFrom X.env.cells scope.names [])) fp
  have nofp : ∀ b ∈ fp, upd HB D (.lst []) b = none := fun b hb => (fC b hb).1.1
  show codeAny _ _ (.compStart _ 0 (.ref it) (.ref D) (compEnvC scope (cellsFrom (sC.heap.objs.size + 1) scope.names (cloFrom X.env.cells scope.names [])) sC.heap.objs.size X.env)) _ { sC with heap := pushCells (sC.heap.push { cls := .type "dict", data := .dict #[] }) scope.names }
  obtain ⟨ce, hce⟩ : ∃ ce, compEnvC scope (cellsFrom (sC.heap.objs.size + 1) scope.names (cloFrom X.env.cells scope.names [])) sC.heap.objs.size X.env = ce := ⟨_, rfl⟩
  have cL : ce.locals = sC.heap.objs.size := by rw [← hce]; rfl
  rw [hce] at IE g1 t1 e1 ⊢
  obtain ⟨HC, eH⟩ : ∃ HC, upd HB D (.lst []) = HC := ⟨_, rfl⟩
  rw [eH] at IC IE g1 t1 e1 w0 nofp fC
  obtain ⟨sD, eD⟩ : ∃ sD : Shared, ({ sC with heap := pushCells (sC.heap.push { cls := .type "dict", data := .dict #[] }) scope.names } : Shared) = sD := ⟨_, rfl⟩
  rw [eD] at IE ⊢
  have stD : tn 0 sD.heap := TU.keep _ _ _ stC fun b _ o e => by
    rw [← eD]
    exact pushCells_keeps _ _ _ _ (Heap.get?_push_of_some _ e)
  have fine : ∀ {σ' : L2.St} {H' : Hp} {s' : Shared}, Inv (X.blk sC HC scope ce fp) [] σ' H' s' → (∀ b ∈ fp, H' b = none) → ∀ b ∈ fp, FpOk (X.blk sC HC scope ce fp) [] H' b := by
    intro σ' H' s' J1 hn b hb
    refine ⟨hn b hb, (J1.ok.exf b hb).1, J1.ok.exfs b hb, .inl hb, fun x c e => (J1.ok.exf b hb).2 x c e, fun p hp => ?_⟩
    cases (show p ∈ ([] : List (Addr × Obj)) ++ [] from hp)
  have body : codeAny (model X.prog X.w) X.A (.compLoop (.ListComp elt [⟨tg, iter, ifs, 0⟩] scope pos) 0 (.ref it) (.ref D) ce) (compPost (model X.prog X.w) X.A X.xe none (fun v s1 => ∃ w H', Inv X pins σ H' s1 ∧ RelV w v ∧ Q w H') (.ref D) sC.heap.objs.size) sD := by
    apply compLoop_any (fun n s' => ∃ i H', Inv (X.blk sC HC scope ce fp) [] (wipe σ (own.map (·.2))) H' s' ∧ tn i s'.heap ∧ (∀ b ∈ fp, H' b = none) ∧ W i n H') ?_ m0 ⟨0, HC, IE, stD, nofp, w0⟩
    intro n s5 hyp
    obtain ⟨i, H5, I5, st5, n5, w5⟩ := hyp
    cases turn i n H5 w5 with
    | inl z =>
      obtain ⟨stop, qq⟩ := z
      refine thnF (TU.done (X.blk sC HC scope ce fp) rfl rfl rfl hc i [] s5 _ H5 (fun _ _ => False) I5 (fine I5 n5) st5 stop) fun r s6 z => ?_
      obtain ⟨rfl, I6⟩ := z
      have I7 : Inv X pins σ H5 s6 := IC.call' (ch := fp) I6.os I6.base I6.hok I6.bare fun b hb => by
        obtain ⟨⟨_, b1, b2, b3, b4, b5⟩, _⟩ := fC b hb
        exact ⟨b3, b1, b4, b5⟩
      have nC : H5 sC.heap.objs.size = none := by
        rw [← cL]
        exact I6.free
      obtain ⟨mm, hn, _⟩ := I6.loc
      have hn : s6.heap.Ns ce.locals mm := hn
      rw [cL] at hn
      refine ⟨mm, hn, fun h'' sb => ?_⟩
      obtain ⟨k0, k1, k2, k3, k4, k5⟩ := IC.fpOk (Nat.le_refl _) nC
      exact ⟨.ref D, H5, I7.turned (t' := s6.toks) (fun b o hb e => (sb.2 b hb).trans e) k0 k1 k3 k4 k5, rfl, qq⟩
    | inr z =>
      obtain ⟨more, Nx, hNx, step⟩ := z
      refine thnF (TU.item (X.blk sC HC scope ce fp) rfl rfl rfl hc i [] s5 _ H5 (fun _ _ => False) I5 (fine I5 n5) st5 more) fun r s6 z => ?_
      obtain ⟨u, rfl, h6⟩ := z
      refine thnF h6 fun _ s7 z => ?_
      obtain ⟨x, H7, I7, r7, y7, st7, n7⟩ := z
      refine thnF (g1.run _ s7 _ H7 x u _ (I7.pinned (fine I7 n7) (TU.obj _ _ st7)) r7 (step x H7 y7)) fun _ s8 z => ?_
      obtain ⟨σ8, H8, I8, hw8, q8⟩ := z
      refine thnF (t1.run _ s8 σ8 H8 _ I8 q8) fun b s9 z => ?_
      obtain ⟨H9, I9, q9⟩ := z
      have fin : ∀ {s' : Shared} {H' : Hp}, Inv (X.blk sC HC scope ce fp) ([] ++ pinsAt fp s7.heap) σ8 H' s' → Nx H' → ∃ m, m < n ∧ ∃ j H', Inv (X.blk sC HC scope ce fp) [] (wipe σ (own.map (·.2))) H' s' ∧ tn j s'.heap ∧ (∀ b ∈ fp, H' b = none) ∧ W j m H' := by
        intro s' H' J1 nx
        obtain ⟨m', hm, w'⟩ := hNx H' nx
        have here : ∀ b ∈ fp, ∀ o, s7.heap.get? b = some o → s'.heap.get? b = some o ∧ H' b = none := by
          intro b hb o e
          have z := J1.pin (b, o) (List.mem_append_right _ (List.mem_append_right _ (mem_pinsAt hb e)))
          exact ⟨z.1, z.2.1⟩
        have len : (wipe σ (own.map (·.2))).length = σ8.length := by rw [← hw8, wipe_length]
        refine ⟨m', hm, i + 1, H', (J1.unpinned (pins := [])).weak len (fun j v e => ?_), TU.keep _ _ _ st7 fun b hb o e => (here b hb o e).1, fun b hb => ?_, w'⟩
        · rw [← hw8] at e
          exact (wipe_some e).1
        · exact (TU.obj _ _ st7 b hb).elim fun o z => (here b hb o z.1).2
      cases b with
      | false => exact fin I9 (by simpa using q9)
      | true =>
        simp only [if_true] at q9 ⊢
        refine thnF (e1.run _ s9 σ8 H9 _ I9 q9) fun z sX y => ?_
        obtain ⟨yv, HX, IX, rX, acc, hDX, hzX, nx⟩ := y
        exact app_ok (X := X.blk sC HC scope ce fp) IX hDX hzX rX fun s11 I11 => fin I11 nx
  exact codeAny_compStart_list body (TU.self X.A 0 _ _ _ stD body)

/-- a method of what wants a token -/
theorem pet_bm {X : Cx} {o e : Expr} {es : List Expr} {name : Str} {T id : String} {r : V → List V → Hp → VK → Prop} {to : TE} {t : TA} {apos cpos : Pos} (pa : PlainAttrs T) (slot : Slot T name id) (hty : typeOf (.builtin id) = pure (.type "method_descriptor")) (hm : MtR X id r) (ho : PET X o to) (ha : PA X (e :: es) t)
    (h1 : attributeBase o name X.env (eval o X.env) = eval o X.env := by rfl)
    (h2 : ((backTo cpos (starEach (e :: es) X.env)).all (fun x => !x.1) && (backToKw cpos (keywordEach [] X.env)).all (fun x => x.1.isSome) && decide ((e :: es).length + ([] : List Keyword).length + (if ([] : List Keyword).isEmpty then 0 else 1) < 30)) = true := by rfl)
    (h3 : (apos.endLine == cpos.line) = true := by rfl) (h4 : starEach (e :: es) X.env = (false, eval e X.env) :: starEach es X.env := by rfl) (h5 : (backTo cpos (starEach es X.env)).any (·.1) = false := by rfl) :
    PET X (.Call (.Attribute o name apos) (e :: es) [] cpos) (tBM X.K T r to t) := by
  intro pins s σ H Q h0 I h
  apply wpAny_Call_method_late h1 h2 h3 rfl
  refine thn (ho pins s σ H _ h0 I h) fun v sA z => ?_
  obtain ⟨x, HA, IA, rA, ty, q⟩ := z
  have tv := tyV_is IA rA ty
  refine ⟨T, id, pa, slot, hty, tv.1, tv.2, ?_⟩
  have args := ha.run cpos pins sA σ HA _ IA q
  rw [h4] at args ⊢
  apply Calls.callWith_builtin (by show (false || (backTo cpos (starEach es X.env)).any (·.1)) = false; rw [h5]; rfl)
  apply Calls.evalArgs_plain
  exact thn args fun us sB y => by
    obtain ⟨vs, HB, IB, rB, qB⟩ := y
    exact hm pins sB σ HB x vs v us Q IB rA rB qB
/-- a def whose body wants a token -/
theorem okT {P : Program} {w : World} {K : PySem.W.Frag} {mg : Str → Option Value} {base : Heap} {x qual : Str} {st : Stmt} {f : Addr} {fd : FuncData} {N ps : List Str} {k : Nat} {sp : Sp} (F : L2.Fun K x qual st f fd) (S : FnScope N ps (defScope st)) (hnc : ∀ y ∈ (defScope st).names, y.2 ≠ .cell) (hps : 1 ≤ ps.length) (len : ∀ vs H Q E, sp vs H Q E → vs.length = ps.length)
    (hbody : ∀ (cdv : Value) (A : Around) (outer : List Env) (s : Shared) (H : Hp) (vs : List V) (Q : VK) (E : XK), Room k (A.deeper (envOfC qual (defScope st) s.heap.objs.size f cdv)) → sp vs H Q E →
      ∃ t, PSsT (cxOf (L2.CX P w) P w K mg base N qual (defScope st) f cdv A outer s H E) (defBody st) t ∧ t { nx := fun _ H' => Q .non H', rt := Q } (L2.start N vs) H) : FnOk P w K mg base (L2.CX P w) (k + 1) f fd ps sp := by
  obtain ⟨oc, od, kV, doc, pm, an, cdv, ct, osl, rfl, lk, hcd⟩ := F.ex
  exact fn_ofT lk hcd S hnc hps len (hbody cdv)
section
variable {K : PySem.W.Frag} {σ : L2.St} {H : Hp} {Q : VK} {N b c : L2.St → Hp → Prop} {r : VK} {te : TE} {g : TG} {z y w : Str} {to : TE}
theorem s_itstr {R : It → Hp → Prop} (h : te σ H fun x H1 => zItS x H1 R) : iStr te σ H R := h
theorem s_zitstr {R : It → Hp → Prop} (h : R (Its z) H) : zItS (.str z) H R := ⟨z, rfl, h⟩
theorem loop_str {tb1 : TS} (Pv : Nat → L2.St → Hp → Prop) (h0 : Pv 0 σ H) (hs : ∀ i c σ' H', z.cps[i]? = some c → Pv i σ' H' → g (.str ⟨#[c]⟩) σ' H' fun σ2 H2 => tb1 ⟨Pv (i + 1), r, N, Pv (i + 1)⟩ σ2 H2)
    (hd : ∀ σ' H', Pv z.cps.size σ' H' → N σ' H') : zLoop (Its z) g tb1 ⟨N, r, b, c⟩ σ H := by
  refine ⟨fun i m σ H => m = z.cps.size - i ∧ i ≤ z.cps.size ∧ Pv i σ H, ⟨_, rfl, Nat.zero_le _, h0⟩, fun i m σ' H' h => ?_⟩
  obtain ⟨rfl, hi, p⟩ := h
  by_cases e : i < z.cps.size
  · refine .inr ⟨e, Pv (i + 1), fun σ2 H2 p2 => ⟨z.cps.size - (i + 1), by omega, rfl, e, p2⟩, fun x H2 y => ?_⟩
    obtain ⟨rfl, cc, hc, rfl⟩ := y
    exact hs i cc σ' _ hc p
  · obtain rfl : i = z.cps.size := by omega
    exact .inl ⟨Nat.le_refl _, hd _ _ p⟩
def zRepl (y z : Str) (v : V) (H : Hp) (Q : VK) : Prop := ∃ x, v = .str x ∧ x.length + (x.length + 1) * z.length ≤ 16777216 ∧ Q (.str (Txt.replace x y z)) H
theorem s_repl (h : to σ H fun v H1 => zRepl y z v H1 Q) : CwR.tReplC to y z σ H Q := h
theorem s_zrepl (h1 : w.length + (w.length + 1) * z.length ≤ 16777216) (h : Q (.str (Txt.replace w y z)) H) : zRepl y z (.str w) H Q := ⟨w, rfl, h1, h⟩
end
/-- a text times a number -/
def repS (x : Str) (n : Nat) : Str := ⟨(List.replicate n x.cps).foldl (· ++ ·) #[]⟩
theorem repS_list (x : Str) (n : Nat) : (repS x n).cps.toList = (List.replicate n x.cps.toList).flatten := by
  have : ∀ (n : Nat) (a : Array Nat), ((List.replicate n x.cps).foldl (· ++ ·) a).toList = a.toList ++ (List.replicate n x.cps.toList).flatten := fun n => by
    induction n with
    | zero => intro a; simp
    | succ n ih => intro a; rw [List.replicate_succ, List.foldl_cons, ih, Array.toList_append, List.replicate_succ, List.flatten_cons, List.append_assoc]
  have h := this n #[]
  rw [show (#[] : Array Nat).toList = [] from rfl, List.nil_append] at h
  exact h
theorem repS_length (x : Str) (n : Nat) : (repS x n).length = n * x.length := by
  have := congrArg List.length (repS_list x n)
  rw [List.length_flatten, List.map_replicate, List.sum_replicate_nat] at this
  exact this
def rRepS : R2 := fun x y H Q => ∃ (s : Str) (n : Nat), x = .str s ∧ y = .int n ∧ 2 ≤ n ∧ 1 ≤ s.length ∧ s.length * n ≤ 1000000 ∧ Q (.str (repS s n)) H
theorem s_repS {s : Str} {n : Int} {H : Hp} {Q : VK} (m : Nat) (e : n = (m : Int)) (h1 : 2 ≤ m) (h2 : 1 ≤ s.length) (h3 : s.length * m ≤ 1000000) (h : Q (.str (repS s m)) H) : rRepS (.str s) (.int n) H Q := ⟨s, m, rfl, by rw [e], h1, h2, h3, h⟩
theorem op_repS {X : Cx} : OpR X (binaryOp .Mult) rRepS := by
  intro pins s σ H x y v u Q I rx ry h
  obtain ⟨z, n, rfl, rfl, h1, h2, h3, q⟩ := h
  obtain ⟨t, rfl⟩ := rx
  obtain ⟨t', rfl⟩ := ry
  have hn : n ≤ 1000000 := by
    have : n * 1 ≤ n * z.length := Nat.mul_le_mul_left _ h2
    rw [Nat.mul_comm] at h3; omega
  have hz : z.length ≤ 1000000 := by
    have : z.length * 1 ≤ z.length * n := Nat.mul_le_mul_left _ (by omega)
    omega
  have big : 1000000 ≤ sizeLine := by decide
  refine PySem.P.mul_str ?_ ?_ ?_ ?_
  · rw [decide_eq_false (by omega), decide_eq_false (by omega)]; rfl
  · intro _ _
    have hd : (2 ^ 63 - 1 : Int) / 1000000 ≤ (2 ^ 63 - 1) / (n : Int) := by
      refine Int.le_ediv_of_mul_le (by omega) ?_
      have : (2 ^ 63 - 1 : Int) / 1000000 * (n : Int) ≤ (2 ^ 63 - 1 : Int) / 1000000 * 1000000 := Int.mul_le_mul_of_nonneg_left (by omega) (by decide)
      exact Int.le_trans this (by decide)
    have : (1000000 : Int) ≤ (2 ^ 63 - 1 : Int) / 1000000 := by decide
    omega
  · intro _ _
    show decide (z.length * ((n : Int)).toNat > sizeLine) = false
    rw [Int.toNat_natCast]
    exact decide_eq_false (by omega)
  · rw [if_neg (by omega)]
    split
    · rename_i e
      exfalso
      rcases (Bool.or_eq_true _ _).mp e with e | e
      · have := eq_of_beq e; omega
      · have := eq_of_beq e; omega
    · rw [Int.toNat_natCast]
      refine ⟨?_, .str (repS z n), H, I.tok _, ⟨_, rfl⟩, q⟩
      have := repS_length z n
      show (repS z n).length ≤ sizeLine
      rw [this, Nat.mul_comm]; omega
end Z
set_option Elab.async false
set_option linter.all false
set_option maxRecDepth 100000
set_option maxHeartbeats 4000000
namespace Z
open PySem Builtin Builtin.Str StrLaws
/-! ### texts as lists of signs: split and replace by one sign -/
def ofL (l : List Nat) : Str := ⟨l.toArray⟩
theorem ofL_ls (s : Str) : ofL s.cps.toList = s := rfl
theorem ls_ofL (l : List Nat) : (ofL l).cps.toList = l := rfl
theorem len_ls (s : Str) : s.length = s.cps.toList.length := by show s.cps.size = _; rw [Array.length_toList]
def splitC (c : Nat) : List Nat → List (List Nat)
  | [] => [[]]
  | x :: xs => if x = c then [] :: splitC c xs else match splitC c xs with
    | [] => [[x]]
    | p :: ps => (x :: p) :: ps
theorem splitC_ne (c : Nat) : ∀ l, ∃ p ps, splitC c l = p :: ps
  | [] => ⟨_, _, rfl⟩
  | x :: xs => by
    unfold splitC
    by_cases h : x = c
    · rw [if_pos h]; exact ⟨_, _, rfl⟩
    · rw [if_neg h]
      obtain ⟨p, ps, e⟩ := splitC_ne c xs
      rw [e]; exact ⟨_, _, rfl⟩
theorem splitC_eq {c : Nat} {xs : List Nat} : splitC c (c :: xs) = [] :: splitC c xs := by
  show (if c = c then _ else _) = _
  rw [if_pos rfl]
theorem splitC_ne' {c x : Nat} {xs p : List Nat} {ps : List (List Nat)} (h : x ≠ c) (e : splitC c xs = p :: ps) : splitC c (x :: xs) = (x :: p) :: ps := by
  show (if x = c then _ else _) = _
  rw [if_neg h, e]
theorem occ_go (x : Str) (c limit : Nat) : ∀ (m k : Nat) (st : Array Nat × Nat), st.fst.size ≤ k → st.snd ≤ k → k + m ≤ limit →
    (forIn (List.range' k m) st (occBody x ⟨#[c]⟩ x.length limit)).run.fst.toList = st.fst.toList ++ (List.range' k m).filter (fun i => decide (x.cps.toList[i]? = some c))
  | 0, k, st, h1, h2, h3 => by simp
  | m + 1, k, st, h1, h2, h3 => by
    rw [List.range'_succ, List.forIn_cons, List.filter_cons]
    have hs := subAt_one x c k
    unfold occBody
    by_cases e : x.cps.toList[k]? = some c
    · have := hs.mpr e
      rw [if_pos ⟨⟨⟨by omega, h2⟩, this.1⟩, this.2⟩, decide_eq_true e, if_pos rfl]
      show (forIn (List.range' (k + 1) m) (st.fst.push k, k + 1) (occBody x ⟨#[c]⟩ x.length limit)).run.fst.toList = _
      rw [occ_go x c limit m (k + 1) _ (by simp; omega) (Nat.le_refl _) (by omega), Array.toList_push, List.append_assoc]
      rfl
    · rw [if_neg (fun z => e (hs.mp ⟨z.1.2, z.2⟩)), decide_eq_false e, if_neg (by decide)]
      exact occ_go x c limit m (k + 1) (st.fst, st.snd) (by show st.fst.size ≤ k + 1; omega) (by show st.snd ≤ k + 1; omega) (by omega)
theorem occ_all (x : Str) (c : Nat) : occurrences x ⟨#[c]⟩ 0 x.length (x.length + 1) = (List.range' 0 (x.length + 1)).filter (fun i => decide (x.cps.toList[i]? = some c)) := by
  rw [occ_eq, Nat.sub_zero, occ_go x c (x.length + 1) (x.length + 1) 0 _ (by simp) (Nat.le_refl _) (by omega)]
  simp
theorem parts_go (x : Str) (c : Nat) : ∀ (m k a : Nat), k + m = x.length + 1 → a ≤ k → ∀ {p : List Nat} {ps : List (List Nat)}, splitC c (x.cps.toList.drop k) = p :: ps →
    (partsFrom x 1 a ((List.range' k m).filter (fun i => decide (x.cps.toList[i]? = some c)))).map (fun s => s.cps.toList) = ((x.cps.toList.drop a).take (k - a) ++ p) :: ps
  | 0, k, a, h, ha, p, ps, e => by
    have hn : x.cps.toList.length = x.length := (len_ls x).symm
    rw [List.drop_eq_nil_of_le (by omega)] at e
    cases e
    show [(strSub x a x.length).cps.toList] = _
    rw [strSub_toList, List.take_of_length_le (by rw [List.length_drop]; omega), List.take_of_length_le (by rw [List.length_drop]; omega), List.append_nil]
  | m + 1, k, a, h, ha, p, ps, e => by
    have hn : x.cps.toList.length = x.length := (len_ls x).symm
    rw [List.range'_succ, List.filter_cons]
    by_cases hk : k < x.length
    · have hk' : k < x.cps.toList.length := by omega
      have dr : x.cps.toList.drop k = x.cps.toList[k] :: x.cps.toList.drop (k + 1) := List.drop_eq_getElem_cons hk'
      obtain ⟨p2, ps2, e2⟩ := splitC_ne c (x.cps.toList.drop (k + 1))
      by_cases q : x.cps.toList[k]? = some c
      · rw [List.getElem?_eq_getElem hk'] at q
        rw [dr, Option.some.inj q, splitC_eq] at e
        cases e
        rw [List.getElem?_eq_getElem hk', decide_eq_true q, if_pos rfl]
        show (strSub x a k).cps.toList :: (partsFrom x 1 (k + 1) _).map _ = _
        rw [parts_go x c m (k + 1) (k + 1) (by omega) (Nat.le_refl _) e2, strSub_toList, List.append_nil, Nat.sub_self, List.take_zero, List.nil_append, e2]
      · rw [decide_eq_false q, if_neg (by decide), parts_go x c m (k + 1) a (by omega) (by omega) e2]
        rw [List.getElem?_eq_getElem hk'] at q
        rw [dr, splitC_ne' (fun z => q (by rw [z])) e2] at e
        cases e
        rw [show k + 1 - a = (k - a) + 1 by omega, List.take_add_one, List.getElem?_drop, show a + (k - a) = k by omega, List.getElem?_eq_getElem hk', List.append_assoc]
        rfl
    · have hk2 : k = x.length := by omega
      cases show m = 0 by omega
      have q : x.cps.toList[k]? = none := List.getElem?_eq_none (by omega)
      rw [q, decide_eq_false (by simp), if_neg (by decide)]
      rw [List.drop_eq_nil_of_le (by omega)] at e
      cases e
      show [(strSub x a x.length).cps.toList] = _
      rw [strSub_toList, List.append_nil, hk2]
theorem kind_ge (x : Str) : 1 ≤ Builtin.Str.strKind x := by
  unfold Str.strKind
  split
  · exact Nat.le_refl _
  · split <;> decide
theorem kind_one {c : Nat} (h : c < 256) : Builtin.Str.strKind ⟨#[c]⟩ = 1 := by
  unfold Str.strKind
  rw [if_pos (by simpa using h)]
theorem parts_eq (x : Str) (c : Nat) : partsBetween x (occurrences x ⟨#[c]⟩ 0 x.length (x.length + 1)) 1 = (splitC c x.cps.toList).map ofL := by
  obtain ⟨p, ps, e⟩ := splitC_ne c x.cps.toList
  have h := parts_go x c (x.length + 1) 0 0 (by omega) (Nat.le_refl _) (p := p) (ps := ps) e
  rw [← occ_all, ← partsBetween_eq] at h
  have e2 : (splitC c x.cps.toList) = (partsBetween x (occurrences x ⟨#[c]⟩ 0 x.length (x.length + 1)) 1).map (fun s => s.cps.toList) := by
    rw [h, e]; rfl
  rw [e2, List.map_map]
  exact (List.map_id _).symm
/-- split by one sign -/
theorem split_eq (t : Str) {c : Nat} (hc : c < 256) : Txt.split t ⟨#[c]⟩ = (splitC c t.cps.toList).map ofL := by
  unfold Txt.split
  by_cases h0 : t.length = 0
  · have : t.cps.toList = [] := List.eq_nil_of_length_eq_zero (by rw [← len_ls]; exact h0)
    rw [if_pos (by rw [decide_eq_true (by rw [h0]; exact Nat.zero_lt_one)]; rfl), this]
    show [t] = [ofL []]
    rw [← this]; rfl
  · rw [if_neg (by
      rw [kind_one hc, decide_eq_false (by show ¬ t.length < 1; omega), decide_eq_false (by have := kind_ge t; omega)]; decide)]
    show (if _ then _ else partsBetween t (occurrences t ⟨#[c]⟩ 0 t.length (t.length + 1)) 1) = _
    split
    · rename_i h
      rw [← parts_eq, List.isEmpty_iff.mp h]
      show [t] = partsBetween t [] 1
      rw [partsBetween_eq]
      show [t] = [strSub t 0 t.length]
      rw [sub_whole]
    · exact parts_eq t c
theorem join_cons2 (y a b : Str) (r : List Str) : Str.join y (a :: b :: r) = a ++ y ++ Str.join y (b :: r) := rfl
theorem glue_split (c d : Nat) : ∀ (l : List Nat), (Str.join ⟨#[d]⟩ ((splitC c l).map ofL)).cps.toList = l.map fun x => if x = c then d else x
  | [] => rfl
  | x :: xs => by
    have ih := glue_split c d xs
    obtain ⟨p, ps, e⟩ := splitC_ne c xs
    by_cases h : x = c
    · rw [h, splitC_eq, List.map_cons, e, List.map_cons, join_cons2, ← List.map_cons, ← e]
      simp only [Str.cps_append, Array.toList_append, ih, List.map_cons, if_pos]
      rfl
    · rw [splitC_ne' h e, List.map_cons, List.map_cons, if_neg h, ← ih, e, List.map_cons]
      cases ps with
      | nil => rfl
      | cons q qs =>
        rw [List.map_cons, join_cons2, join_cons2]
        simp only [Str.cps_append, Array.toList_append]
        rfl
/-- one sign replaced by another one -/
theorem replace_eq (t : Str) (c d : Nat) : Txt.replace t ⟨#[c]⟩ ⟨#[d]⟩ = ofL (t.cps.toList.map fun x => if x = c then d else x) := by
  have key : ofL (t.cps.toList.map fun x => if x = c then d else x) = glued ⟨#[d]⟩ (partsBetween t (occurrences t ⟨#[c]⟩ 0 t.length (t.length + 1)) 1) := by
    rw [parts_eq, glued_eq_join]
    refine Str.ext' (Array.toList_inj.mp ?_)
    rw [glue_split]
    rfl
  unfold Txt.replace
  split
  · rename_i h
    have h : (occurrences t ⟨#[c]⟩ 0 t.length (t.length + 1)).isEmpty = true := by
      rcases Bool.or_eq_true _ _ |>.mp h with z | z
      · exact z
      · cases (show ((1 == 0) && (1 == 0)) = true from z)
    rw [key, List.isEmpty_iff.mp h, partsBetween_eq]
    show t = glued ⟨#[d]⟩ [strSub t 0 t.length]
    rw [sub_whole, glued_eq_join]
    rfl
  · exact key.symm

/-! ### the words of a text -/
theorem splitC_app (c : Nat) (r : List Nat) : ∀ l : List Nat, splitC c (l ++ c :: r) = splitC c l ++ splitC c r
  | [] => splitC_eq
  | x :: xs => by
    have ih := splitC_app c r xs
    obtain ⟨p, ps, e⟩ := splitC_ne c xs
    by_cases h : x = c
    · rw [h, List.cons_append, splitC_eq, splitC_eq, ih]; rfl
    · rw [List.cons_append, splitC_ne' h (p := p) (ps := ps ++ splitC c r) (by rw [ih, e]; rfl), splitC_ne' h e]
      rfl
theorem splitC_none {c : Nat} : ∀ {l : List Nat}, c ∉ l → splitC c l = [l]
  | [], _ => rfl
  | x :: xs, h => splitC_ne' (fun z => h (by rw [z]; exact List.mem_cons_self)) (splitC_none fun z => h (List.mem_cons_of_mem _ z))
theorem splitC_mem (c : Nat) : ∀ (l p : List Nat), p ∈ splitC c l → ∀ x ∈ p, x ∈ l ∧ x ≠ c
  | [], p, h, x, hx => by
    rw [List.mem_singleton.mp h] at hx; cases hx
  | y :: l, p, h, x, hx => by
    obtain ⟨q, qs, e⟩ := splitC_ne c l
    by_cases d : y = c
    · rw [d, splitC_eq] at h
      rcases List.mem_cons.mp h with z | z
      · rw [z] at hx; cases hx
      · obtain ⟨a, b⟩ := splitC_mem c l p z x hx
        exact ⟨List.mem_cons_of_mem _ a, b⟩
    · rw [splitC_ne' d e] at h
      rcases List.mem_cons.mp h with z | z
      · rw [z] at hx
        rcases List.mem_cons.mp hx with w | w
        · rw [w]; exact ⟨List.mem_cons_self, d⟩
        · obtain ⟨a, b⟩ := splitC_mem c l q (by rw [e]; exact List.mem_cons_self) x w
          exact ⟨List.mem_cons_of_mem _ a, b⟩
      · obtain ⟨a, b⟩ := splitC_mem c l p (by rw [e]; exact List.mem_cons_of_mem _ z) x hx
        exact ⟨List.mem_cons_of_mem _ a, b⟩
theorem splitC_len (c : Nat) : ∀ l : List Nat, (splitC c l).length ≤ l.length + 1 ∧ ∀ p ∈ splitC c l, p.length ≤ l.length
  | [] => ⟨Nat.le_refl _, fun p h => by rw [List.mem_singleton.mp h]; exact Nat.le_refl _⟩
  | y :: l => by
    obtain ⟨a, b⟩ := splitC_len c l
    obtain ⟨q, qs, e⟩ := splitC_ne c l
    by_cases d : y = c
    · rw [d, splitC_eq]
      refine ⟨by rw [List.length_cons, List.length_cons]; omega, fun p h => ?_⟩
      rcases List.mem_cons.mp h with z | z
      · rw [z]; exact Nat.zero_le _
      · exact Nat.le_trans (b p z) (Nat.le_succ _)
    · rw [splitC_ne' d e]
      rw [e] at a b
      refine ⟨by rw [List.length_cons] at a ⊢; rw [List.length_cons]; omega, fun p h => ?_⟩
      rcases List.mem_cons.mp h with z | z
      · rw [z, List.length_cons, List.length_cons]
        exact Nat.succ_le_succ (b q List.mem_cons_self)
      · exact Nat.le_trans (b p (List.mem_cons_of_mem _ z)) (Nat.le_succ _)
def isB (x : Nat) : Prop := x = 32 ∨ x = 10
def ws0 (l : List Nat) : List (List Nat) := (splitC 32 (l.map fun x => if x = 10 then 32 else x)).filter fun p => !p.isEmpty
theorem ws0_app {b : Nat} (h : isB b) (l r : List Nat) : ws0 (l ++ b :: r) = ws0 l ++ ws0 r := by
  unfold ws0
  rw [List.map_append, List.map_cons, show (if b = 10 then 32 else b) = 32 by rcases h with h | h <;> subst h <;> rfl, splitC_app, List.filter_append]
theorem ws0_nil : ws0 [] = [] := rfl
theorem ws0_blank {b : Nat} (h : isB b) (r : List Nat) : ws0 (b :: r) = ws0 r := ws0_app h [] r
theorem ws0_one {w : List Nat} (hw : w ≠ []) (h : ∀ x ∈ w, ¬ isB x) : ws0 w = [w] := by
  have e : w.map (fun x => if x = 10 then 32 else x) = w := by
    conv => rhs; rw [← List.map_id w]
    refine List.map_congr_left fun x hx => ?_
    rw [if_neg fun z => h x hx (.inr z)]; rfl
  unfold ws0
  rw [e, splitC_none fun z => h 32 z (.inl rfl)]
  cases w with
  | nil => exact absurd rfl hw
  | cons a b => rfl
theorem ws0_gap {r : List Nat} : ∀ {g : List Nat}, (∀ x ∈ g, isB x) → ws0 (g ++ r) = ws0 r
  | [], _ => rfl
  | b :: g, h => by rw [List.cons_append, ws0_blank (h b List.mem_cons_self)]; exact ws0_gap fun x hx => h x (List.mem_cons_of_mem _ hx)
theorem ws0_end {l : List Nat} : ∀ {g : List Nat}, (∀ x ∈ g, isB x) → ws0 (l ++ g) = ws0 l
  | [], _ => by rw [List.append_nil]
  | b :: g, h => by
    have := ws0_gap (g := g) (r := []) fun x hx => h x (List.mem_cons_of_mem _ hx)
    rw [List.append_nil] at this
    rw [ws0_app (h b List.mem_cons_self), this, ws0_nil, List.append_nil]
/-- a word, some gap, and what comes then -/
theorem ws0_word {w g r : List Nat} (hw : w ≠ []) (h : ∀ x ∈ w, ¬ isB x) (hg : g ≠ []) (hb : ∀ x ∈ g, isB x) : ws0 (w ++ (g ++ r)) = w :: ws0 r := by
  cases g with
  | nil => exact absurd rfl hg
  | cons b g =>
    rw [List.cons_append, ws0_app (hb b List.mem_cons_self), ws0_one hw h, ws0_gap fun x hx => hb x (List.mem_cons_of_mem _ hx)]
    rfl
theorem ws0_mem {l p : List Nat} (h : p ∈ ws0 l) : p ≠ [] ∧ p.length ≤ l.length ∧ ∀ x ∈ p, x ∈ l ∧ ¬ isB x := by
  unfold ws0 at h
  obtain ⟨h, h2⟩ := List.mem_filter.mp h
  refine ⟨fun z => by rw [z] at h2; exact absurd h2 (by decide), by simpa using (splitC_len 32 _).2 p h, fun x hx => ?_⟩
  obtain ⟨a, b⟩ := splitC_mem 32 _ p h x hx
  obtain ⟨y, hy, e⟩ := List.mem_map.mp a
  by_cases d : y = 10
  · rw [if_pos d] at e; exact absurd e.symm b
  · rw [if_neg d] at e
    rw [← e]
    refine ⟨hy, fun z => ?_⟩
    rcases z with z | z
    · exact b (e.symm.trans z)
    · exact d z
theorem ws0_len (l : List Nat) : (ws0 l).length ≤ l.length + 1 := by
  unfold ws0
  refine Nat.le_trans (List.length_filter_le _ _) ?_
  simpa using (splitC_len 32 (l.map fun x => if x = 10 then 32 else x)).1
theorem nl_is : (("\n" : Str)) = ⟨#[10]⟩ := by decide +kernel
theorem bl_is : ((" " : Str)) = ⟨#[32]⟩ := by decide +kernel
theorem em_is : (("" : Str)) = ⟨#[]⟩ := by decide +kernel
/-- the words of a text -/
theorem words_eq (t : Str) : ((Txt.split (Txt.replace t "\n" " ") " ").filter fun w => !decide (w = ("" : Str))) = (ws0 t.cps.toList).map ofL := by
  rw [nl_is, bl_is, em_is, split_eq _ (by decide), replace_eq, ls_ofL]
  unfold ws0
  rw [List.filter_map]
  refine congrArg _ (List.filter_congr fun p _ => ?_)
  show (!decide (ofL p = ⟨#[]⟩)) = !p.isEmpty
  cases p with
  | nil => rfl
  | cons a b => rw [decide_eq_false (fun z => by have := congrArg (fun s : Str => s.cps.toList) z; cases this)]; rfl
/-! ### numbers as texts -/
def sgI (i : Int) : List Nat := if i < 0 then 45 :: TL.numL i.natAbs else TL.numL i.natAbs
theorem str_int (i : Int) : (Str.ofString (toString i)).cps.toList = sgI i := by
  unfold sgI
  cases i with
  | ofNat n => rw [if_neg (by show ¬ ((n : Nat) : Int) < 0; omega)]; exact TL.tl_num n
  | negSucc n =>
    rw [if_pos (by omega)]
    show (Str.ofString ("-" ++ toString (n + 1))).cps.toList = 45 :: TL.numL (n + 1)
    have e := TL.tl_num (n + 1)
    have e2 : (Str.ofString (toString (n + 1))).cps.toList = TL.numL (n + 1) := e
    rw [Str.ofString_eq_toList] at e2 ⊢
    rw [String.toList_append, List.map_append]
    rw [← e2]
    rfl
theorem numL_head {n : Nat} (h : n ≠ 0) : ∃ d r, TL.numL n = (48 + d) :: r ∧ 1 ≤ d ∧ d ≤ 9 := by
  induction n using Nat.strongRecOn with
  | _ n ih =>
    by_cases c : n < 10
    · exact ⟨n, [], TL.numL_lt c, by omega, by omega⟩
    · obtain ⟨d, r, e, h1, h2⟩ := ih (n / 10) (by omega) (by omega)
      exact ⟨d, r ++ [48 + n % 10], by rw [TL.numL_step (by omega), e]; rfl, h1, h2⟩
/-! ### rstrip of some signs -/
def rRstripC : L2.V → List L2.V → L2.Hp → L2.VK → Prop := fun x xs H Q => ∃ a b, x = .str a ∧ xs = [.str b] ∧ a.length ≤ sizeLine ∧ Q (.str (Txt.rstripChars a b)) H
theorem s_rstripC {a b : Str} {H : L2.Hp} {Q : L2.VK} (h : a.length ≤ sizeLine) (q : Q (.str (Txt.rstripChars a b)) H) : rRstripC (.str a) [.str b] H Q := ⟨a, b, rfl, rfl, h, q⟩
theorem rstrip_cut (x y : Str) : ∃ g, x.cps.toList = (Txt.rstripChars x y).cps.toList ++ g ∧ ∀ c ∈ g, c ∈ y.cps.toList := by
  have l := len_ls x
  have e : (Txt.rstripChars x y).cps.toList = x.cps.toList.take (x.length - (x.cps.toList.reverse.takeWhile y.cps.contains).length) := by
    unfold Txt.rstripChars
    rw [PyProof.Rows.stripBy_eq, strSub_toList]
    show (x.cps.toList.drop 0).take (x.length - ((x.cps.toList.drop 0).reverse.takeWhile y.cps.contains).length - 0) = _
    rw [List.drop_zero, Nat.sub_zero]
  refine ⟨x.cps.toList.drop (x.length - (x.cps.toList.reverse.takeWhile y.cps.contains).length), by rw [e, List.take_append_drop], fun c hc => ?_⟩
  have h2 : c ∈ (x.cps.toList.reverse.takeWhile y.cps.contains) := by
    have h3 : x.cps.toList.reverse.take (x.cps.toList.reverse.takeWhile y.cps.contains).length = x.cps.toList.reverse.takeWhile y.cps.contains := by
      conv => lhs; rw [← List.takeWhile_append_dropWhile (p := y.cps.contains) (l := x.cps.toList.reverse)]
      conv => lhs; arg 1; rw [List.takeWhile_append_dropWhile]
      exact List.take_left' rfl
    rw [← h3, List.take_reverse, List.mem_reverse, ← l]
    exact hc
  have := List.all_eq_true.mp (List.all_takeWhile (p := y.cps.contains) (l := x.cps.toList.reverse)) c h2
  simpa using this
theorem rstrip_ws {x y : Str} (h : ∀ c ∈ y.cps.toList, isB c) : ws0 (Txt.rstripChars x y).cps.toList = ws0 x.cps.toList := by
  obtain ⟨g, e, hg⟩ := rstrip_cut x y
  rw [e, ws0_end fun c hc => h c (hg c hc)]
theorem rstrip_ok {x y : Str} (h : PyData.strOk x = true) : PyData.strOk (Txt.rstripChars x y) = true ∧ (Txt.rstripChars x y).length ≤ x.length := by
  obtain ⟨g, e, hg⟩ := rstrip_cut x y
  refine ⟨?_, by rw [len_ls, len_ls, e, List.length_append]; omega⟩
  unfold PyData.strOk at h ⊢
  rw [Array.all_eq_true_iff_forall_mem] at h ⊢
  intro c hc
  exact h c (Array.mem_toList_iff.mp (by rw [e]; exact List.mem_append_left _ (Array.mem_toList_iff.mpr hc)))
/-! ### index of a sign in a text -/
def rSIndex : L2.V → List L2.V → L2.Hp → L2.VK → Prop := fun x xs H Q => ∃ a b i rest, x = .str a ∧ xs = [.str b] ∧ Builtin.Str.occurrences a b 0 a.length 1 = i :: rest ∧ Q (.int (i : Nat)) H
theorem s_sindex {a b : Str} {i : Nat} {H : L2.Hp} {Q : L2.VK} (h : Builtin.Str.occurrences a b 0 a.length 1 = [i]) (q : Q (.int (i : Nat)) H) : rSIndex (.str a) [.str b] H Q := ⟨a, b, i, [], rfl, rfl, h, q⟩
end Z
set_option Elab.async false
set_option linter.all false
set_option maxRecDepth 100000
set_option maxHeartbeats 4000000
/-! ### exceptions that are kept behind their clause -/
namespace Z
open PySem PySem.Spec PyProof.Rows L2
variable [TQ]
def kxo (a : Addr) (cls : Value) (d : Option Addr) : HO := .ext fun h => ∃ oe vs, h.get? a = some oe ∧ Zc cls d oe ∧ oe.data = .fields vs
theorem kxo_ok {P : Program} {w : World} {H : Hp} {h : Heap} {a : Addr} {cls : Value} {d : Option Addr} {oe : Obj} {vs : Array Value} (e : h.get? a = some oe) (z : Zc cls d oe) (f : oe.data = .fields vs) : ObjOk P w H h a (kxo a cls d) :=
  ⟨⟨oe, vs, e, z, f⟩, ⟨oe, e⟩, fun h1 h2 ⟨o1, v1, g1, g2, g3⟩ k => ⟨o1, v1, k _ g1, g2, g3⟩⟩
theorem kxo_at {P : Program} {w : World} {H : Hp} {h : Heap} {a : Addr} {cls : Value} {d : Option Addr} (hok : HOk P w H h) (e : H a = some (kxo a cls d)) : ∃ oe vs, h.get? a = some oe ∧ Zc cls d oe ∧ oe.data = .fields vs := by
  have x : ObjOk P w H h a (.ext fun h => ∃ oe vs, h.get? a = some oe ∧ Zc cls d oe ∧ oe.data = .fields vs) := hok a _ e
  exact x.1
section
variable {X : Cx} {pins pn' : List (Addr × Obj)} {σ : L2.St} {H : Hp} {s : Shared} {a : Addr} {oe : Obj} {vs : Array Value} {cls : Value} {d : Option Addr}
theorem inv_keep (ok : X.Ok) (I : Inv (X.suite a ((a, oe) :: (X.pn ++ pins))) pn' σ H s) (hz : Zc cls d oe) (hd : oe.data = .fields vs) (new : ∀ b o, X.s_0.heap.get? b = some o → b ≠ a) (np : ∀ p ∈ X.pn ++ pins, p.1 ≠ a) :
    Inv X pins σ (upd H a (kxo a cls d)) s := by
  obtain ⟨ha, na, nL, nF, nc⟩ := I.pin (a, oe) (List.mem_append_left _ List.mem_cons_self)
  have up : ∀ {b : Addr} {u : HO}, H b = some u → upd H a (kxo a cls d) b = some u := fun {b u} e => (upd_ne (ne_of_none e na)).trans e
  have B := I.base
  refine ⟨ok, I.os, I.bare, ⟨B.keep, B.slot, fun b o e n hx => (upd_ne (new b o e)).trans (B.free b o e n hx), B.there, fun b xs e => up (B.tups b xs e), fun b o u e => up (B.frzs b o u e), fun b ps e => ?_⟩, I.loc, I.cell, ?_, fun x c e => ?_, fun p hp => ?_, fun b o e => ?_, I.len⟩
  · obtain ⟨more, q⟩ := B.tbls b ps e
    exact ⟨more, up q⟩
  · exact (upd_ne nL.symm).trans I.free
  · refine (upd_ne fun z => ?_).trans (I.freeC x c e)
    obtain ⟨v, o, q, qd⟩ := I.cell x c e
    subst z
    cases (show s.heap.get? c = some oe from ha).symm.trans q
    exact nc v qd
  · obtain ⟨g1, g2, g3⟩ := I.pin p (List.mem_append_left _ (List.mem_cons_of_mem _ hp))
    exact ⟨g1, (upd_ne (np p hp)).trans g2, g3⟩
  · by_cases c : b = a
    · subst c
      rw [upd_same] at e
      cases e
      exact kxo_ok ha hz hd
    · rw [upd_ne c] at e
      exact (I.hok b o e).stay (fun _ _ _ q => q) (fun _ q => up q) fun _ _ q => up q
end
/-- what the clause wishes of an exception of the body: it is kept -/
def wKeep (K : PySem.W.Frag) (c : Value) (i : Nat) (ts : TS) (Wout : WX) (D : Ends) : WX := fun cls d σ H =>
  ∃ b, PySem.W.exmOne K cls c = some b ∧ (b = true → ∀ a, H a = none → ts ⟨fun σ' H' => H' a = none → D.nx (σ'.set i none) (upd H' a (kxo a cls d)), fun _ _ => False, fun _ _ => False, fun _ _ => False⟩ (σ.set i (some (.ref a))) H) ∧ (b = false → Wout cls d σ H)
def sTryKeep (K : PySem.W.Frag) (c : Value) (i : Nat) (tb : WX → TS) (ts : TS) (W : WX) : TS := fun D σ H => tb (wKeep K c i ts W D) D σ H
section
variable {X : Cx} {x n : Str} {c : Value} {i : Nat} {body suite : List Stmt} {b₀ : Stmt} {np pos pos' : Pos} {tb : WX → TS} {ts : TS} {Wout : WX}
theorem ps_try_keep (hs : X.stack = X.env :: X.outer) (hf : X.env.frame = some X.env.locals) (hex : X.ex = []) (hN : X.N.Nodup) (hi : X.N[i]? = some n) (hln : X.env.kindOf n = some .local) (hc : Names X x c) (tk : Takes X Wout)
    (hb : ∀ (W : WX) (pn : List (Addr × Obj)) (xe : Value → Shared → Prop), Takes (X.tr pn xe) W → PassesOwn (model X.prog X.w) X.A X.env xe → PSs (X.tr pn xe) body (tb W))
    (hsu : ∀ (a : Addr) (oe : Obj) (pn : List (Addr × Obj)), PSs (X.suite a ((a, oe) :: pn)) (b₀ :: suite) ts) :
    PS X (.Try body [.ExceptHandler (some (.Name x np)) (some n) (b₀ :: suite) pos'] [] [] pos) (sTryKeep X.K c i tb ts Wout) := by
  refine ⟨fun pins s σ H D I0 h0 => ?_⟩
  have okX := I0.ok
  have frX : X.A.frames = some (X.env :: X.outer) := by rw [← hs]; exact okX.frames
  refine wpAny_Try_except ?_
  refine wpAny_mono ((hb (wKeep X.K c i ts Wout D) (X.pn ++ pins)
    (fun er z1 => wpAny (model X.prog X.w) X.A (noteFrame er X.env) (fun _ z2 => wpAny (model X.prog X.w) X.A (setFlight er none)
      (fun _ z3 => wpAny (model X.prog X.w) X.A (handleBy er X.env [.ExceptHandler (some (.Name x np)) (some n) (b₀ :: suite) pos']) (SP X pins D) X.xe z3) X.xe z2) X.xe z1)
    (fun u t0 xx => ?_) PassesOwn.looking).run [] s σ H D (I0.toTry _) h0) (fun f t1 hsp => ?_) fun er t1 he => he
  · obtain ⟨p, G, sI, pins1, τ, H1, cls, d, rfl, J0, nb, up0, sky0, np1, os0, bare0, b, hb1, hyes, hno⟩ := xx
    have J1 : Inv X pins τ H1 sI := J0.ofTry okX
    have sky1 : Sky G (X.env :: X.outer) p (Zc cls d) X.env.locals t0.heap := by rw [← hs]; exact sky0
    show wpAny (model X.prog X.w) X.A (noteFrame (.ref p) X.env) _ _ _
    refine Sky.land Zc.steady frX hf sky1 fun g3 fl3 up3 => ?_
    have J3 : Inv X pins τ H1 { t0 with heap := g3 } := J1.landed nb fl3.1 (up0.trans up3) os0 bare0
    obtain ⟨o3, v3, e3, z3, d3⟩ := fl3.there
    have gG : G.get? p = none := fl3.2.1
    have nfr : p ∉ frs (X.env :: X.outer) := fun hm => by
      obtain ⟨_, o', e', hnf⟩ := fl3.2.2.1.mem hm
      rw [e3] at e'; cases e'
      exact hnf _ d3
    have nL : p ≠ X.env.locals := fun z => nfr (List.mem_filterMap.mpr ⟨X.env, List.mem_cons_self, by rw [hf, z]⟩)
    have nF : p ∉ X.fs := fun hm => by
      obtain ⟨er, he, q⟩ := List.mem_filterMap.mp hm
      exact nfr (List.mem_filterMap.mpr ⟨er, List.mem_cons_of_mem _ he, q⟩)
    have far : ∀ {b : Addr} {o : Obj}, sI.heap.get? b = some o → b ≠ p := fun {b o} e z => by
      subst z
      have := nb b o e (by rw [hs]; exact nfr)
      rw [gG] at this; cases this
    have newp : ∀ (b : Addr) (o : Obj), X.s_0.heap.get? b = some o → b ≠ p := fun b o e => by
      obtain ⟨o', e'⟩ := J1.base.there b o e (by rw [hex]; exact List.not_mem_nil)
      exact far e'
    have pinp : ∀ q ∈ X.pn ++ pins, q.1 ≠ p := fun q hq => far (J1.pin q hq).1
    have S3 := J3.suite e3 d3 np1 nL nF
    refine wpAny_handleBy_cons (codeAny_handlers_test ?_) (by intro q; cases q)
    have LT : PySem.W.Looks (model X.prog X.w) g3 (typeOf (.ref p)) cls := fun A Q E s k q => wpAny_typeOf_ref (k _ _ e3) (by rw [z3.1]; exact q)
    have LM := PySem.W.exm_one (M := model X.prog X.w) (J3.kIn) LT hb1
    have asks : ∀ {Q : Value → Shared → Prop} {E : Value → Shared → Prop}, Q c { t0 with heap := g3 } → wpAny (model X.prog X.w) (X.A.mark (some (.ref p))) (eval (.Name x np) X.env) Q E { t0 with heap := g3 } := fun {Q E} q => by
      obtain ⟨hg, hdbg, hm | ⟨hm, hv, hnn⟩⟩ := hc
      · exact ld_glob (X := X.suite p ((p, o3) :: (X.pn ++ pins))) S3 hg hm q hdbg
      · exact ld_blt (X := X.suite p ((p, o3) :: (X.pn ++ pins))) S3 hg hm hv q hnn hdbg
    refine asks (LM.here ?_)
    cases b with
    | false =>
      show wpAny _ X.A (handleBy (.ref p) X.env []) _ _ _
      refine wpAny_handleBy_nil ?_
      obtain ⟨k1, k2, k3, oe, ws, tr, otr, us, he, hz, hd, h1, hr⟩ := id fl3
      unfold PySem.passOn
      refine wpAny_bind (wpAny_field he hd h1 ?_)
      rw [if_neg (show ¬ ((Value.ref tr == Value.none) = true) from by simp)]
      have gone : wpAny (model X.prog X.w) X.A (setFlight (.ref p) X.env.frame) (fun _ s4 => wpAny (model X.prog X.w) X.A (throw (.ref p) : Sem Flow) (SP X pins D) X.xe s4) X.xe { t0 with heap := g3 } := by
        rw [hf]
        refine HandSPX.setFlight_upZ fl3 fun g4 hh4 up4 => wpAny_throw (tk _ _ ?_)
        exact ⟨p, G, sI, pins, τ, H1, cls, d, rfl, J1, nb, (up0.trans up3).trans up4, .inr (.inr (by rw [hs]; exact hh4)), np1, os0, bare0, hno rfl⟩
      first
        | exact wpAny_bind (wpAny_pure (wpAny_bind gone))
        | exact wpAny_bind gone
    | true =>
      refine codeAny_handlers_suite_as ?_
      refine HandSPX.lands_againZ fl3 fun g4 fl4 up4 => ?_
      have J4 : Inv X pins τ H1 { t0 with heap := g4 } := J1.landed nb fl4.1 ((up0.trans up3).trans up4) os0 bare0
      obtain ⟨o4, v4, e4, z4, d4⟩ := fl4.there
      have S4 := J4.suite e4 d4 np1 nL nF
      refine store_ok (X := X.suite p ((p, o4) :: (X.pn ++ pins))) (v := .ref p) S4 hN hi (.inl hln) rfl (fun s5 S5 => ?_) (.inr hln)
      refine wpAny_mono ((hsu p o4 (X.pn ++ pins)).run [] s5 _ H1 _ S5 (hyes rfl p np1)) (fun f s6 hsp => ?_) fun _ _ z => z.elim
      cases f with
      | next =>
        obtain ⟨σ6, H6, S6, q6⟩ := hsp
        have h6 : H6 p = none := (S6.pin (p, o4) (List.mem_append_left _ List.mem_cons_self)).2.1
        exact gone_ok (inv_keep okX S6 z4 d4 newp pinp) hN hi hln fun s7 J7 => ⟨_, _, J7, q6 h6⟩
      | brk =>
        obtain ⟨σ6, H6, S6, q6⟩ := hsp
        exact q6.elim
      | cont =>
        obtain ⟨σ6, H6, S6, q6⟩ := hsp
        exact q6.elim
      | ret u =>
        obtain ⟨v6, σ6, H6, S6, r6, q6⟩ := hsp
        exact q6.elim
  · cases f with
    | next =>
      obtain ⟨σ1, H1, J1, q⟩ := hsp
      exact wpAny_execs_nil ⟨σ1, H1, J1.ofTry okX, q⟩
    | brk =>
      obtain ⟨σ1, H1, J1, q⟩ := hsp
      exact ⟨σ1, H1, J1.ofTry okX, q⟩
    | cont =>
      obtain ⟨σ1, H1, J1, q⟩ := hsp
      exact ⟨σ1, H1, J1.ofTry okX, q⟩
    | ret u =>
      obtain ⟨v, σ1, H1, J1, r, q⟩ := hsp
      exact ⟨v, σ1, H1, J1.ofTry okX, r, q⟩
end
/-! ### what is asked of a kept exception -/
def rIsK (K : PySem.W.Frag) : List V → Hp → VK → Prop := fun xs H Q => ∃ (a D : Addr) (d : Option Addr) (c : V) (u : Value) (b : Bool), xs = [.ref a, c] ∧ H a = some (kxo a (.ref D) d) ∧ (∀ dd, d = some dd → ∃ fs, H dd = some (.xd fs)) ∧ ExcC K D ∧
  ((ClsV c u ∧ PySem.W.kitOne K (.ref D) u = some b) ∨ ∃ (q : Addr) (cs : List V) (us : List Value), c = .ref q ∧ H q = some (.tup cs) ∧ Paired ClsV cs us ∧ PySem.W.kitAny K (.ref D) us = some b) ∧ Q (.bl b) H
theorem kx_inst {X : Cx} {pins : List (Addr × Obj)} {σ : L2.St} {H : Hp} {s : Shared} {a D : Addr} {d : Option Addr} (I : Inv X pins σ H s) (e : H a = some (kxo a (.ref D) d)) (hd : ∀ dd, d = some dd → ∃ fs, H dd = some (.xd fs)) : ∃ ox od, PySem.W.InstAt s.heap a ox D od ∧ (∀ dd, d = some dd → ∃ o, od = some o ∧ s.heap.get? dd = some o) := by
  obtain ⟨oe, vs, g, z, f⟩ := kxo_at I.hok e
  cases d with
  | none =>
    refine ⟨oe, none, ⟨g, z.1, by unfold PySem.W.notCls; rw [f] <;> rfl, by rw [z.2]; trivial⟩, fun dd h => by cases h⟩
  | some dd =>
    obtain ⟨fs, hx⟩ := hd dd rfl
    have hx' : ObjOk X.prog X.w H s.heap dd (.xd fs) := I.hok dd _ hx
    obtain ⟨mA, hns, hr⟩ := hx'
    obtain ⟨od, ho, hl⟩ := lookIn_ns hns
    exact ⟨oe, some od, ⟨g, z.1, by unfold PySem.W.notCls; rw [f] <;> rfl, by rw [z.2]; exact ho⟩, fun d2 h => by cases h; exact ⟨od, rfl, ho⟩⟩
theorem call_isK {X : Cx} : CallR X (.builtin "isinstance") (rIsK X.K) := by
  intro pins s σ H xs us Q I r h
  obtain ⟨a, D, d, c, u, b, rfl, ha, hd, C, hc, q⟩ := h
  obtain ⟨u1, u2, rfl, r1, r2⟩ := vals2 r
  cases (show u1 = Value.ref a from r1)
  obtain ⟨ox, od, J, _⟩ := kx_inst I ha hd
  have Zk : PySem.W.KitX X.K (.ref a) (.ref D) (fun h => PySem.W.InstAt h a ox D od) := PySem.W.kitx_exc (by
    have := C.hd
    obtain ⟨cd, hcd, _⟩ := PySem.W.any_some this
    rw [hcd]; rfl) C.hg C.hk C.hs C.ha C.hn C.ht C.hm
  rcases hc with ⟨k, e⟩ | ⟨tp, cs, ws, rfl, hT, k, e⟩
  · cases k.eq r2
    exact PySem.W.kia_one Zk I.kIn J e (fun z => nomatch z) fun tk => ⟨.bl b, H, I.tok tk, rfl, q⟩
  · cases (show u2 = Value.ref tp from r2)
    obtain ⟨_, its, rv, o, h1, h2, n, h3⟩ := (show ObjOk X.prog X.w H s.heap tp (.tup cs) from I.hok tp _ hT)
    cases ClsV.all k rv
    obtain ⟨oc, od', dt, sl⟩ := o
    simp only at h2 h3
    subst h2 h3
    exact PySem.W.kia_tup Zk I.kIn J h1 e (fun z => nomatch z) fun tk => ⟨.bl b, H, I.tok tk, rfl, q⟩
def rIsi3 (K : PySem.W.Frag) : List V → Hp → VK → Prop := fun xs H Q => rIsi2 K xs H Q ∨ rIsK K xs H Q
theorem call_isi3 {X : Cx} : CallR X (.builtin "isinstance") (rIsi3 X.K) := fun pins s σ H vs us Q I r h => h.elim (fun z => call_isi' pins s σ H vs us Q I r z) fun z => call_isK pins s σ H vs us Q I r z
/-- e.f of a kept exception -/
def zKf (K : PySem.W.Frag) (f : Str) (x : V) (H : Hp) (Q : VK) : Prop := ∃ (a C dd : Addr) (fs : List (Str × V)) (v : V), x = .ref a ∧ H a = some (kxo a (.ref C) (some dd)) ∧ XfC K C ∧ PySem.W.findIn K (.ref C) f = some none ∧ H dd = some (.xd fs) ∧ fs.lookup f = some v ∧ Q v H
def tKf (K : PySem.W.Frag) (te : TE) (f : Str) : TE := fun σ H Q => te σ H fun x H1 => zKf K f x H1 Q
theorem s_kf {K : PySem.W.Frag} {te : TE} {f : Str} {σ : L2.St} {H : Hp} {Q : VK} (h : te σ H fun x H1 => zKf K f x H1 Q) : tKf K te f σ H Q := h
theorem pe_kf {X : Cx} {e : Expr} {te : TE} {pos : Pos} {n : Str} (he : PE X e te) (hb : attributeBase e n X.env (eval e X.env) = eval e X.env := by rfl) : PE X (.Attribute e n pos) (tKf X.K te n) := by
  refine ⟨fun pins s σ H Q I h => ?_⟩
  refine attr_of hb (thn (he.run pins s σ H _ I h) fun u s1 ⟨x, H1, I1, rx, a, C, dd, fs, v, ex, ea, T, hno, ed, l, q⟩ => ?_)
  subst ex
  cases (show u = Value.ref a from rx)
  obtain ⟨oe, vs, g, z, f⟩ := kxo_at I1.hok ea
  have hx' : ObjOk X.prog X.w H1 s1.heap dd (.xd fs) := I1.hok dd _ ed
  obtain ⟨mA, hns, hr⟩ := hx'
  obtain ⟨od, ho, hl⟩ := lookIn_ns hns
  obtain ⟨u, hu, ru⟩ := RelO.some_of (v := v) (o := mA n) (by rw [← l]; exact hr n)
  have J : PySem.W.InstAt s1.heap a oe C (some od) := ⟨g, z.1, by unfold PySem.W.notCls; rw [f] <;> rfl, by rw [z.2]; exact ho⟩
  exact HandSPX.exc_get I1.kIn J T.ga T.gg T.exC (PySem.W.findObj_own T.hdC hno rfl (by rw [hl, hu])) (handed_of ru) ⟨v, H1, I1.tok _, ru, q⟩
/-- a kept exception of a class with fields -/
structure Kept (H : Hp) (a D d : Addr) (fs : List (Str × V)) : Prop where
  k : H a = some (kxo a (.ref D) (some d))
  d : H d = some (.xd fs)
theorem Kept.of {H : Hp} {a D d : Addr} {fs : List (Str × V)} (na : H a = none) (h : H d = some (.xd fs)) : Kept (upd H a (kxo a (.ref D) (some d))) a D d fs := ⟨upd_same, (upd_ne (ne_of_none h na)).trans h⟩
theorem Kept.same {H H' : Hp} {a D d : Addr} {fs : List (Str × V)} (h : Kept H a D d fs) (S : Same H H') : Kept H' a D d fs := ⟨S _ _ h.k, S _ _ h.d⟩
theorem Kept.ne {H : Hp} {a D d p : Addr} {fs : List (Str × V)} {o : HO} (h : Kept H a D d fs) (hp : H p = some o) (n1 : ∀ φ, o ≠ .ext φ) (n2 : ∀ gs, o ≠ .xd gs) : a ≠ p ∧ d ≠ p := ⟨ne_of h.k hp fun z => n1 _ z.symm, ne_of h.d hp fun z => n2 _ z.symm⟩
theorem Kept.but {H H' : Hp} {a D d p : Addr} {fs : List (Str × V)} {o : HO} (h : Kept H a D d fs) (B : But p H H') (hp : H p = some o) (n1 : ∀ φ, o ≠ .ext φ) (n2 : ∀ gs, o ≠ .xd gs) : Kept H' a D d fs := by
  obtain ⟨m1, m2⟩ := h.ne hp n1 n2
  exact ⟨B.rd m1 h.k, B.rd m2 h.d⟩
section
variable {K : PySem.W.Frag} {H : Hp} {Q : VK} {a D d c q : Addr} {fs : List (Str × V)} {b : Bool} {f : Str} {v : V} {cs : List V} {us : List Value}
theorem s_isKo (h : Kept H a D d fs) (C : ExcC K D) (e : PySem.W.kitOne K (.ref D) (.ref c) = some b) (g : Q (.bl b) H) : rIsi3 K [.ref a, .ref c] H Q :=
  .inr ⟨a, D, some d, .ref c, .ref c, b, rfl, h.k, fun dd z => by cases z; exact ⟨_, h.d⟩, C, .inl ⟨.own c, e⟩, g⟩
theorem s_isKv (h : Kept H a D d fs) (C : ExcC K D) (e : PySem.W.kitOne K (.ref D) (.type "ValueError") = some b) (g : Q (.bl b) H) : rIsi3 K [.ref a, .ty "ValueError"] H Q :=
  .inr ⟨a, D, some d, .ty "ValueError", .type "ValueError", b, rfl, h.k, fun dd z => by cases z; exact ⟨_, h.d⟩, C, .inl ⟨.ty _, e⟩, g⟩
theorem s_isKt (h : Kept H a D d fs) (C : ExcC K D) (hq : H q = some (.tup cs)) (k : Paired ClsV cs us) (e : PySem.W.kitAny K (.ref D) us = some b) (g : Q (.bl b) H) : rIsi3 K [.ref a, .ref q] H Q :=
  .inr ⟨a, D, some d, .ref q, .none, b, rfl, h.k, fun dd z => by cases z; exact ⟨_, h.d⟩, C, .inr ⟨q, cs, us, rfl, hq, k, e⟩, g⟩
theorem s_isNo (h : H a = some (kxo a (.ref D) none)) (C : ExcC K D) (e : PySem.W.kitOne K (.ref D) (.ref c) = some b) (g : Q (.bl b) H) : rIsi3 K [.ref a, .ref c] H Q :=
  .inr ⟨a, D, none, .ref c, .ref c, b, rfl, h, fun dd z => (by cases z), C, .inl ⟨.own c, e⟩, g⟩
theorem s_isNv (h : H a = some (kxo a (.ref D) none)) (C : ExcC K D) (e : PySem.W.kitOne K (.ref D) (.type "ValueError") = some b) (g : Q (.bl b) H) : rIsi3 K [.ref a, .ty "ValueError"] H Q :=
  .inr ⟨a, D, none, .ty "ValueError", .type "ValueError", b, rfl, h, fun dd z => (by cases z), C, .inl ⟨.ty _, e⟩, g⟩
theorem s_isNt (h : H a = some (kxo a (.ref D) none)) (C : ExcC K D) (hq : H q = some (.tup cs)) (k : Paired ClsV cs us) (e : PySem.W.kitAny K (.ref D) us = some b) (g : Q (.bl b) H) : rIsi3 K [.ref a, .ref q] H Q :=
  .inr ⟨a, D, none, .ref q, .none, b, rfl, h, fun dd z => (by cases z), C, .inr ⟨q, cs, us, rfl, hq, k, e⟩, g⟩
theorem s_zkf (h : Kept H a D d fs) (X : XfC K D) (n : PySem.W.findIn K (.ref D) f = some none) (l : fs.lookup f = some v) (g : Q v H) : zKf K f (.ref a) H Q := ⟨a, D, d, fs, v, rfl, h.k, X, n, h.d, l, g⟩
theorem kitAny_no {t c : Value} {cs : List Value} {r : Bool} (h : PySem.W.kitOne K t c = some false) (g : PySem.W.kitAny K t cs = some r) : PySem.W.kitAny K t (c :: cs) = some r := kitAny_cons h (fun _ => g) fun z => by cases z
theorem kitAny_yes {t c : Value} {cs : List Value} (h : PySem.W.kitOne K t c = some true) : PySem.W.kitAny K t (c :: cs) = some true := kitAny_cons h (fun z => by cases z) fun _ => rfl
theorem kit_mkV {K : PySem.W.Frag} {S : Addr} (h : PySem.W.subIn K (.ref S) (.type "ValueError") = some true) : PySem.W.kitOne K (.ref S) (.type "ValueError") = some true := by
  unfold PySem.W.kitOne PySem.W.kitCls
  rw [if_neg (by intro z; cases beq_iff_eq.mp z)]
  show (if PySem.W.kitMeta "ValueError" = true then PySem.W.subIn K (.ref S) (.type "ValueError") else none) = some true
  rw [if_pos (by decide +kernel)]
  exact h
theorem kit_mkR {K : PySem.W.Frag} {S C : Addr} {b : Bool} (h1 : PySem.W.isClsIn K C = true) (h2 : PySem.W.typeIn K (.ref C) = some (.type "type")) (h3 : PySem.W.subIn K (.ref S) (.ref C) = some b) (h4 : PySem.W.subIn K (.ref S) (.ref S) = some true) : PySem.W.kitOne K (.ref S) (.ref C) = some b := by
  unfold PySem.W.kitOne PySem.W.kitCls
  by_cases e : (Value.ref S == Value.ref C) = true
  · rw [if_pos e]
    cases Value.ref.inj (beq_iff_eq.mp e)
    rw [h4] at h3
    exact h3
  · rw [if_neg e]
    have e2 : ((PySem.W.clsIn K C).isSome && PySem.W.typeIn K (.ref C) == some (.type "type")) = true := by
      have h1' : (PySem.W.clsIn K C).isSome = true := h1
      rw [h1', h2] <;> rfl
    show (if ((PySem.W.clsIn K C).isSome && PySem.W.typeIn K (.ref C) == some (.type "type")) = true then PySem.W.subIn K (.ref S) (.ref C) else none) = some b
    rw [if_pos e2]
    exact h3
theorem s_isi3 {xs : List V} (h : rIsi2 K xs H Q) : rIsi3 K xs H Q := .inl h
end
theorem s_tryKeep {N b c : L2.St → Hp → Prop} {r : VK} {K : PySem.W.Frag} {σ : L2.St} {H : Hp} {i : Nat} {cc : Value} {tbw : WX → TS} {ts : TS} {W : WX} (h : tbw (wKeep K cc i ts W ⟨N, r, b, c⟩) ⟨N, r, b, c⟩ σ H) : sTryKeep K cc i tbw ts W ⟨N, r, b, c⟩ σ H := h
end Z
set_option Elab.async false
set_option linter.all false
set_option maxRecDepth 100000
set_option maxHeartbeats 4000000
/-! ### sum(xs, []) of a list of lists -/
namespace Z
open PySem PySem.Spec PyProof.Rows L2
section
variable {P : Program} {w : World} {A : Around} {E : Value → Shared → Prop} {s : Shared} {R : Result → Shared → Prop} {I l S : Addr} {its : Array Value} {h0 : Heap} {rows : List (List Value)}
/-- what the parts are -/
def PartsL (h0 : Heap) (its : Array Value) (rows : List (List Value)) : Prop := ∀ (i : Nat) (v : Value), its[i]? = some v → ∃ a x c, v = .ref a ∧ rows[i]? = some x ∧ h0.get? a = some (seqObj "list" x.toArray c)
theorem sumL_loop (hh : A.handled = none) (hne : l ≠ I) (nl : l ≠ S) (nI : I ≠ S) (pt : PartsL h0 its rows) (hr : rows.length = its.size) (fit : rows.flatten.length ≤ sizeLine) (nI0 : h0.get? I = none) (nS0 : h0.get? S = none) :
    ∀ (k i : Nat) (s : Shared) (T : Addr) (c c2 : Nat), its.size - i = k → i ≤ its.size → (s.heap.IsListIter I l i ∧ s.heap.IsList l its) → s.heap.get? S = some (seqObj "list" #[.ref T] c) →
      s.heap.get? T = some (seqObj "list" (rows.take i).flatten.toArray c2) → T ≠ S → T ≠ I → (∀ b o, h0.get? b = some o → s.heap.get? b = some o) →
      (∀ (g : Heap) (tk : Nat) (T2 : Addr) (c3 : Nat), (∀ b o, h0.get? b = some o → g.get? b = some o) → g.get? T2 = some (seqObj "list" rows.flatten.toArray c3) → (i = its.size → T2 = T) → (i < its.size → s.heap.objs.size ≤ T2) → R (.ok (.ret (.ref T2))) { s with heap := g, toks := tk }) →
      codeAny (model P w) A (.builtin "sum.loop" ⟨[.ref I, .ref S, rawInt 2, rawInt 0], []⟩) R s := by
  have W := Walks.list (prog := P) (w := w) (A := A.in1) hh I l hne its
  intro k
  induction k with
  | zero =>
    intro i s T c c2 hk hi hst hS hT nT nT2 kp q
    obtain rfl : i = its.size := by omega
    refine codeAny_builtin F.entry_sum_loop ?_
    rw [Around.under_plainId F.plain_sum_loop _]
    show wpAny _ A.in1 (seqItems? (.ref S) >>= _) _ _ s
    refine wpAny_bind (wpAny_seqItems hS rfl ?_)
    show wpAny _ A.in1 (tryCatch (pyNext (.ref I)) _ >>= _) _ _ s
    refine wpAny_bind (wpAny_tryCatch (W.done s _ _ hst fun g tk hg => wpAny_pure ?_))
    have old : ∀ b o, b ≠ I → s.heap.get? b = some o → g.get? b = some o := fun b o n e => hg b o (by simpa using n) e
    rw [← hr, List.take_length] at hT
    exact q g tk T c2 (fun b o e => old b o (fun z => by rw [z, nI0] at e; cases e) (kp b o e)) (old _ _ nT2 hT) (fun _ => rfl) (fun z => absurd z (Nat.lt_irrefl _))
  | succ k ih =>
    intro i s T c c2 hk hi hst hS hT nT nT2 kp q
    have hlt : i < its.size := by omega
    refine codeAny_builtin F.entry_sum_loop ?_
    rw [Around.under_plainId F.plain_sum_loop _]
    show wpAny _ A.in1 (seqItems? (.ref S) >>= _) _ _ s
    refine wpAny_bind (wpAny_seqItems hS rfl ?_)
    show wpAny _ A.in1 (tryCatch (pyNext (.ref I)) _ >>= _) _ _ s
    refine wpAny_bind (wpAny_tryCatch (wpAny_pyNext_list_item hst.1 hst.2 (x := its[i]) (by simp [hlt]) fun g hit sb => ?_))
    have old : ∀ b o, b ≠ I → s.heap.get? b = some o → g.get? b = some o := fun b o n e => sb.extBut b o n e
    have st2 : g.IsListIter I l (i + 1) ∧ g.IsList l its := ⟨hit, hst.2.extBut sb.extBut hne⟩
    obtain ⟨a, x, c3, ev, hx, ha0⟩ := pt i its[i] (by simp [hlt])
    rw [ev]
    have kg : ∀ b o, h0.get? b = some o → g.get? b = some o := fun b o e => old b o (fun z => by rw [z, nI0] at e; cases e) (kp b o e)
    have ha := kg _ _ ha0
    have hTg := old _ _ nT2 hT
    have hSg := old _ _ nI.symm hS
    have hxl := (List.getElem?_eq_some_iff.mp hx).1
    have et : (rows.take (i + 1)).flatten = (rows.take i).flatten ++ x := by
      rw [List.take_succ_eq_append_getElem hxl, (List.getElem?_eq_some_iff.mp hx).2, List.flatten_append]
      simp
    have le : (rows.take (i + 1)).flatten.length ≤ rows.flatten.length := by
      conv => rhs; rw [← List.take_append_drop (i + 1) rows, List.flatten_append, List.length_append]
      omega
    have sz : (rows.take i).flatten.toArray.size + x.toArray.size ≤ sizeLine := by
      rw [et, List.length_append] at le
      rw [List.size_toArray, List.size_toArray]
      omega
    show wpAny _ A.in1 ((holding [Value.ref a] (binaryOp .Add (.ref T) (.ref a))).attempt >>= _) _ _ _
    refine wpAny_bind (wpAny_attempt (wpAny_holding (PySem.P.add_list (s := { s with heap := g }) hTg ha ?_ sz)))
    have ea : (rows.take i).flatten.toArray ++ x.toArray = (rows.take (i + 1)).flatten.toArray := by rw [et]; simp
    rw [ea]
    have gS : (g.push (seqObj "list" (rows.take (i + 1)).flatten.toArray 0)).get? S = some (seqObj "list" #[.ref T] c) := Heap.get?_push_of_some _ hSg
    show wpAny _ A.in1 (updateSeq S (fun _ => #[.ref g.objs.size]) >>= _) _ _ _
    refine wpAny_bind (wpAny_updateSeq gS rfl ?_)
    have gS2 := Heap.get?_update_self (Obj.mapSeq fun _ => #[Value.ref g.objs.size]) gS rfl
    refine wpAny_bind (wpAny_letGo (wpAny_bind (wpAny_updateSeq gS2 rfl (wpAny_pure ⟨plainId_quiet F.plain_sum_loop _, ?_⟩))))
    have lS := Heap.lt_size hSg
    have far : ∀ b o, b ≠ S → (g.push (seqObj "list" (rows.take (i + 1)).flatten.toArray 0)).get? b = some o →
        (((g.push (seqObj "list" (rows.take (i + 1)).flatten.toArray 0)).update S (Obj.mapSeq fun _ => #[Value.ref g.objs.size])).update S (Obj.mapSeq fun _ => #[Value.ref g.objs.size])).get? b = some o := fun b o n e =>
      (Heap.get?_update_other _ _ n.symm).trans ((Heap.get?_update_other _ _ n.symm).trans e)
    have hz : s.heap.objs.size ≤ g.objs.size := Nat.le_of_eq sb.1.symm
    refine ih (i + 1) _ g.objs.size _ 0 (by omega) (by omega) ⟨?_, ?_⟩ (Heap.get?_update_self _ gS2 rfl) ?_ (Nat.ne_of_gt lS) ?_ ?_ ?_
    · exact st2.1.at fun o e => far _ _ nI (Heap.get?_push_of_some _ e)
    · exact st2.2.at fun o e => far _ _ nl (Heap.get?_push_of_some _ e)
    · exact far _ _ (Nat.ne_of_gt lS) (Heap.get?_push_size _ rfl)
    · obtain ⟨o, e, _⟩ := st2.1
      exact Nat.ne_of_gt (Heap.lt_size e)
    · intro b o e
      exact far _ _ (fun z => by rw [z, nS0] at e; cases e) (Heap.get?_push_of_some _ (kg b o e))
    · intro g2 tk2 T2 c4 k2 h2 e1 e2
      refine q g2 tk2 T2 c4 k2 h2 (fun z => absurd z (Nat.ne_of_lt hlt)) fun _ => ?_
      by_cases z : i + 1 = its.size
      · rw [e1 z]; exact hz
      · have := e2 (by omega)
        rw [Heap.size_update, Heap.size_update, size_push'] at this
        exact Nat.le_trans hz (Nat.le_trans (Nat.le_succ _) this)
theorem sumL (hh : A.handled = none) {Q : Value → Shared → Prop} {p : Addr} (hl : s.heap.IsList l its) (pt : PartsL s.heap its rows) (hr : rows.length = its.size) (fit : rows.flatten.length ≤ sizeLine) {c0 : Nat} (hp : s.heap.get? p = some (seqObj "list" #[] c0))
    (q : ∀ (g : Heap) (tk : Nat) (T : Addr) (c : Nat), (∀ b o, s.heap.get? b = some o → g.get? b = some o) → g.get? T = some (seqObj "list" rows.flatten.toArray c) → (rows = [] → T = p) → (rows ≠ [] → s.heap.objs.size ≤ T) → Q (.ref T) { s with heap := g, toks := tk }) :
    wpAny (model P w) A (call (.builtin "sum") [.ref l, .ref p]) Q E s := by
  refine call_function_tree F.kind_sum F.plain_sum F.entry_sum (by unfold argsOk; kernel_rfl) ?_
  unfold Builtin.«sum»
  simp only [List.length_cons, List.length_nil]
  rw [if_neg (by decide)]
  have ll : l < s.heap.objs.size := by obtain ⟨_, e, _⟩ := hl; exact Heap.lt_size e
  have lp := Heap.lt_size hp
  refine wpAny_bind (wpAny_of_eq (show Builtin.Builtins.bindParams "sum" ["start"] 0 ⟨[.ref p], []⟩ = pure [some (.ref p)] from rfl) (wpAny_bind (wpAny_pyIter_list hl ?_)))
  have hp2 : (s.heap.push { cls := .type "list_iterator", data := .fields #[.ref l, .int 0 0] }).get? p = some (seqObj "list" #[] c0) := Heap.get?_push_of_some _ hp
  have tp : Shared.TypeIs { s with heap := s.heap.push { cls := .type "list_iterator", data := .fields #[.ref l, .int 0 0] } } (.ref p) "list" := ⟨_, hp2, rfl⟩
  refine wpAny_bind (wpAny_pure ?_)
  simp only [List.forIn_cons, List.forIn_nil]
  refine wpAny_bind (wpAny_bind (wpAny_bind (wpAny_isInstance (T := "list") (b := false) tp (by rw [isSubtype_type]; kernel_rfl) ?_)))
  simp only [Bool.false_eq_true, if_false]
  refine wpAny_pure (wpAny_bind (wpAny_bind (wpAny_isInstance (T := "list") (b := false) tp (by rw [isSubtype_type]; kernel_rfl) ?_)))
  simp only [Bool.false_eq_true, if_false]
  refine wpAny_pure (wpAny_bind (wpAny_bind (wpAny_isInstance (T := "list") (b := false) tp (by rw [isSubtype_type]; kernel_rfl) ?_)))
  simp only [Bool.false_eq_true, if_false]
  refine wpAny_pure (wpAny_pure ?_)
  refine wpAny_bind (wpAny_newObj_type ?_)
  have z1 : (s.heap.push { cls := .type "list_iterator", data := .fields #[.ref l, .int 0 0] }).objs.size = s.heap.objs.size + 1 := size_push' _ _
  have out : ∀ b, s.heap.objs.size ≤ b → s.heap.get? b = none := fun b hb => by
    cases e : s.heap.get? b with
    | none => rfl
    | some o => exact absurd (Heap.lt_size e) (Nat.not_lt_of_le hb)
  have i0 : s.heap.get? s.heap.objs.size = none := out _ (Nat.le_refl _)
  have i1 : s.heap.get? (s.heap.objs.size + 1) = none := out _ (Nat.le_succ _)
  have hi : (s.heap.push { cls := .type "list_iterator", data := .fields #[.ref l, .int 0 0] }).IsListIter s.heap.objs.size l 0 := ⟨_, Heap.get?_push_size _ rfl, rfl, rfl⟩
  have kp : ∀ b o, s.heap.get? b = some o → ((s.heap.push { cls := .type "list_iterator", data := .fields #[.ref l, .int 0 0] }).push (seqObj "list" #[.ref p] 0)).get? b = some o := fun b o e => Heap.get?_push_of_some _ (Heap.get?_push_of_some _ e)
  have hS : ((s.heap.push { cls := .type "list_iterator", data := .fields #[.ref l, .int 0 0] }).push (seqObj "list" #[.ref p] 0)).get? (s.heap.objs.size + 1) = some (seqObj "list" #[.ref p] 0) := by
    rw [← z1]; exact Heap.get?_push_size _ rfl
  rw [z1]
  refine wpAny_pure ⟨plainId_quiet F.plain_sum_loop _, sumL_loop (h0 := s.heap) (S := s.heap.objs.size + 1) (I := s.heap.objs.size) hh (Nat.ne_of_lt ll) (Nat.ne_of_lt (Nat.lt_succ_of_lt ll)) (Nat.ne_of_lt (Nat.lt_succ_self _)) pt hr fit i0 i1 its.size 0 _ p 0 c0 (by omega) (Nat.zero_le _)
    ⟨hi.at fun o e => Heap.get?_push_of_some _ e, (hl.push _).push _⟩ hS (by rw [List.take_zero]; exact kp _ _ hp) (Nat.ne_of_lt (Nat.lt_succ_of_lt lp)) (Nat.ne_of_lt lp) kp fun g tk T2 c3 k1 k2 k3 k4 => ?_⟩
  refine q g tk T2 c3 k1 k2 (fun z => k3 ?_) fun z => ?_
  · rw [← hr, z]; rfl
  · have := k4 (by rw [← hr]; exact List.length_pos_iff.mpr z)
    rw [size_push', z1] at this
    exact Nat.le_trans (Nat.le_add_right _ 2) this
end
section
variable {X : Cx}
/-- sum(xs, p), xs a list of lists, p an empty list -/
def rSumL (K : PySem.W.Frag) : List V → Hp → VK → Prop := fun us H Q => ∃ (a p : Addr) (vs : List V) (rows : List (List V)), us = [.ref a, .ref p] ∧ H a = some (.lst vs) ∧ H p = some (.lst []) ∧ vs.length = rows.length ∧ (∀ (i : Nat) (v : V), vs[i]? = some v → ∃ b x, v = .ref b ∧ rows[i]? = some x ∧ H b = some (.lst x)) ∧
  rows.flatten.length ≤ sizeLine ∧ (rows = [] → Q (.ref p) H) ∧ (rows ≠ [] → ∀ t, H t = none → Q (.ref t) (upd H t (.lst rows.flatten)))
theorem vals_at : ∀ {xs : List V} {us : List Value} {i : Nat} {v : Value}, Vals xs us → us[i]? = some v → ∃ x, xs[i]? = some x ∧ RelV x v
  | _, _, i, _, .nil, e => by simp at e
  | x :: _, _, 0, _, .cons r t, e => by cases e; exact ⟨x, rfl, r⟩
  | _, _, i + 1, _, .cons r t, e => by
    obtain ⟨y, h1, h2⟩ := vals_at (i := i) t (by simpa using e)
    exact ⟨y, by simpa using h1, h2⟩
theorem vals_flat : ∀ {rows : List (List V)} {us : List (List Value)}, us.length = rows.length → (∀ (i : Nat) (x : List V) (u : List Value), rows[i]? = some x → us[i]? = some u → Vals x u) → Vals rows.flatten us.flatten
  | [], [], _, _ => .nil
  | r :: rows, u :: us, h, hv => by
    rw [List.flatten_cons, List.flatten_cons]
    exact (hv 0 r u rfl rfl).append (vals_flat (by simpa using h) fun i x y e1 e2 => hv (i + 1) x y (by simpa using e1) (by simpa using e2))
  | [], _ :: _, h, _ => by simp at h
  | _ :: _, [], h, _ => by simp at h
theorem choose_rows {α β : Type} {F : Nat → α → β → Prop} : ∀ (l : List α), (∀ (i : Nat) (x : α), l[i]? = some x → ∃ y, F i x y) → ∃ ys : List β, ys.length = l.length ∧ ∀ (i : Nat) (x : α) (y : β), l[i]? = some x → ys[i]? = some y → F i x y
  | [], _ => ⟨[], rfl, fun i x y e => by simp at e⟩
  | a :: l, h => by
    obtain ⟨y, hy⟩ := h 0 a rfl
    obtain ⟨ys, e, f⟩ := choose_rows (F := fun i => F (i + 1)) l fun i x e => h (i + 1) x (by simpa using e)
    refine ⟨y :: ys, by simp [e], fun i x z e1 e2 => ?_⟩
    cases i with
    | zero => cases e1; cases e2; exact hy
    | succ i => exact f i x z (by simpa using e1) (by simpa using e2)
theorem cr_sumL (hc : X.calm = true) : CallR X (.builtin "sum") (rSumL X.K) := by
  intro pins s σ H us ws Q I r h
  obtain ⟨a, p, vs, rows, rfl, ha, hp, hl, hrow, fit, q0, q1⟩ := h
  obtain ⟨ua, up, rfl, ra, rp⟩ : ∃ ua up, ws = [ua, up] ∧ RelV (.ref a) ua ∧ RelV (.ref p) up := by
    cases r with
    | cons r1 t =>
      cases t with
      | cons r2 t2 => cases t2; exact ⟨_, _, rfl, r1, r2⟩
  cases ra
  cases rp
  obtain ⟨_, its, n, rv, el, ea⟩ := I.lstM ha
  obtain ⟨_, itp, np, rvp, _, ep⟩ := I.lstM hp
  cases rvp
  have lit : its.length = rows.length := by rw [← el, hl]
  obtain ⟨us, lu, hu⟩ := choose_rows (F := fun i (x : List V) (u : List Value) => Vals x u ∧ ∃ b c, vs[i]? = some (V.ref b) ∧ s.heap.get? b = some (seqObj "list" u.toArray c)) rows fun i x e => by
    have hi := (List.getElem?_eq_some_iff.mp e).1
    have ev := List.getElem?_eq_getElem (show i < vs.length by omega)
    obtain ⟨b, y, e1, e2, e3⟩ := hrow i _ ev
    rw [e] at e2
    cases e2
    obtain ⟨_, u, c, hv, _, g⟩ := I.lstM e3
    exact ⟨u, hv, b, c, by rw [ev, e1], g⟩
  have vf := vals_flat lu fun i x u e1 e2 => (hu i x u e1 e2).1
  have fl : us.flatten.length = rows.flatten.length := vf.length.symm
  refine sumL (rows := us) (I.ok.hd hc) (its := its.toArray) ⟨_, ea, rfl, _, rfl⟩ (fun i v e => ?_) (by rw [lu, List.size_toArray]; exact lit.symm) (by rw [fl]; exact fit) ep fun g tk T c k1 k2 k3 k4 => ?_
  · have e : its[i]? = some v := by simpa using e
    have hi := (List.getElem?_eq_some_iff.mp e).1
    obtain ⟨x, e1, rx⟩ := vals_at rv e
    have er := List.getElem?_eq_getElem (show i < rows.length by omega)
    have eu := List.getElem?_eq_getElem (show i < us.length by omega)
    obtain ⟨_, b, c, e2, e3⟩ := hu i _ _ er eu
    rw [e1] at e2
    cases e2
    cases rx
    exact ⟨b, _, c, rfl, eu, e3⟩
  · by_cases z : rows = []
    · have zu : us = [] := List.eq_nil_of_length_eq_zero (by rw [lu, z]; rfl)
      rw [k3 zu]
      exact ⟨.ref p, H, I.kept k1, rfl, q0 z⟩
    · have zu : us ≠ [] := fun e => z (List.eq_nil_of_length_eq_zero (by rw [← lu, e]; rfl))
      exact ⟨.ref T, upd H T (.lst rows.flatten), I.laid k1 (k4 zu) ⟨fit, us.flatten, c, vf, k2⟩, rfl, q1 z T (I.hok.fresh (k4 zu))⟩
end
variable [TQ]
theorem s_sumL {K : PySem.W.Frag} {H : Hp} {Q : VK} {a p : Addr} {vs : List V} (rows : List (List V)) (h1 : H a = some (.lst vs)) (h2 : H p = some (.lst [])) (h3 : vs.length = rows.length) (h4 : ∀ (i : Nat) (v : V), vs[i]? = some v → ∃ b x, v = .ref b ∧ rows[i]? = some x ∧ H b = some (.lst x)) (h5 : rows.flatten.length ≤ sizeLine)
    (h : ∀ t H', Same H H' → (H t = none ∨ t = p) → H' t = some (.lst rows.flatten) → Q (.ref t) H') : rSumL K [.ref a, .ref p] H Q := ⟨a, p, vs, rows, rfl, h1, h2, h3, h4, h5, fun e => h p H (Same.refl H) (.inr rfl) (by rw [e]; exact h2), fun _ t ht => h t _ (same_new ht) (.inl ht) upd_same⟩
end Z

namespace My
open PySem Z
open L2 hiding rLen Same Same.refl Same.trans Same.free Same.seq Same.made
variable [TQ]

/-- where the top's things stand -/
structure Adr where
  K : PySem.W.Frag
  mg : Str → Option Value
  t_NUMBER : Tok
  t_GET : Tok
  t_SET : Tok
  t_ALL : Tok
  t_PICK : Tok
  t_LOOP : Tok
  t_CALL : Tok
  t_FAIL : Tok
  t_PUT : Tok
  t_SIZE : Tok
  t_NEW : Tok
  t_LETTERS : Tok
  t_FIGURES : Tok
  t_MOST_LETTERS : Tok
  t_MOST_FIGURES : Tok
  t_MOST_FUNCTIONS : Tok
  t_MOST_PARAMS : Tok
  t_MOST_BOXES : Tok
  t_MOST_PARTS : Tok
  t_DEEPEST : Tok
  a_EARLY : Addr
  a_LATE : Addr
  c_ChainError : Addr
  c_NoSheet : Addr
  c_NoText : Addr
  c_NoCode : Addr
  c_NoRow : Addr
  c_NoName : Addr
  c_Reader : Addr
  f_NoText_init : Addr
  d_NoText_init : FuncData
  f_word_of : Addr
  d_word_of : FuncData
  f_kind_of : Addr
  d_kind_of : FuncData
  f_parts_of : Addr
  d_parts_of : FuncData
  f_is_of : Addr
  d_is_of : FuncData
  f_is_name : Addr
  d_is_name : FuncData
  f_is_number_of : Addr
  d_is_number_of : FuncData
  f_is_number_word : Addr
  d_is_number_word : FuncData
  f_words_of : Addr
  d_words_of : FuncData
  f_heads_inp : Addr
  d_heads_inp : FuncData
  f_Reader_init : Addr
  d_Reader_init : FuncData
  f_Reader_is_left : Addr
  d_Reader_is_left : FuncData
  f_Reader_due : Addr
  d_Reader_due : FuncData
  f_Reader_fixed_word : Addr
  d_Reader_fixed_word : FuncData
  f_Reader_fresh_name : Addr
  d_Reader_fresh_name : FuncData
  f_Reader_boxes_to : Addr
  d_Reader_boxes_to : FuncData
  f_Reader_how_many : Addr
  d_Reader_how_many : FuncData
  f_Reader_node : Addr
  d_Reader_node : FuncData
  f_Reader_own_numbers : Addr
  d_Reader_own_numbers : FuncData
  f_is_node_word : Addr
  d_is_node_word : FuncData
  f_read_text : Addr
  d_read_text : FuncData
  f_Lpen : Addr
  d_Lpen : FuncData
  f_Ldraw : Addr
  d_Ldraw : FuncData
  f_Lwords : Addr
  d_Lwords : FuncData
  f_Lname : Addr
  d_Lname : FuncData
  f_Lheads : Addr
  d_Lheads : FuncData
  f_Lnumber : Addr
  d_Lnumber : FuncData
  f_Lshape : Addr
  d_Lshape : FuncData
  f_Lprogram : Addr
  d_Lprogram : FuncData
  f_Lright : Addr
  d_Lright : FuncData
  f_Lcaught : Addr
  d_Lcaught : FuncData
  f_Lbad_names : Addr
  d_Lbad_names : FuncData
  f_Lbad_heads : Addr
  d_Lbad_heads : FuncData
  f_Lbad_bodies : Addr
  d_Lbad_bodies : FuncData
  f_Ltexts : Addr
  d_Ltexts : FuncData
  f_Lspoilt : Addr
  d_Lspoilt : FuncData
  f_Llone : Addr
  d_Llone : FuncData
  f_law : Addr
  d_law : FuncData
  cc_Reader_fixed_word : Addr
  p_Reader_fixed_word : Addr
  cc_Reader_fresh_name : Addr
  p_Reader_fresh_name : Addr
  cc_Reader_how_many : Addr
  p_Reader_how_many : Addr
  cc_Reader_node : Addr
  p_Reader_node : Addr
  cc_Reader_own_numbers : Addr
  p_Reader_own_numbers : Addr
/-- what is known of them -/
structure Top (Z : Adr) : Prop where
  g_NUMBER : Z.mg "NUMBER" = some (.int 0 Z.t_NUMBER)
  g_GET : Z.mg "GET" = some (.int 1 Z.t_GET)
  g_SET : Z.mg "SET" = some (.int 2 Z.t_SET)
  g_ALL : Z.mg "ALL" = some (.int 3 Z.t_ALL)
  g_PICK : Z.mg "PICK" = some (.int 4 Z.t_PICK)
  g_LOOP : Z.mg "LOOP" = some (.int 5 Z.t_LOOP)
  g_CALL : Z.mg "CALL" = some (.int 6 Z.t_CALL)
  g_FAIL : Z.mg "FAIL" = some (.int 7 Z.t_FAIL)
  g_PUT : Z.mg "PUT" = some (.int 17 Z.t_PUT)
  g_SIZE : Z.mg "SIZE" = some (.int 18 Z.t_SIZE)
  g_NEW : Z.mg "NEW" = some (.int 19 Z.t_NEW)
  g_LETTERS : Z.mg "LETTERS" = some (.str "abcdefghijklmnopqrstuvwxyz" Z.t_LETTERS)
  g_FIGURES : Z.mg "FIGURES" = some (.str "0123456789" Z.t_FIGURES)
  g_MOST_LETTERS : Z.mg "MOST_LETTERS" = some (.int 8 Z.t_MOST_LETTERS)
  g_MOST_FIGURES : Z.mg "MOST_FIGURES" = some (.int 60 Z.t_MOST_FIGURES)
  g_MOST_FUNCTIONS : Z.mg "MOST_FUNCTIONS" = some (.int 16 Z.t_MOST_FUNCTIONS)
  g_MOST_PARAMS : Z.mg "MOST_PARAMS" = some (.int 4 Z.t_MOST_PARAMS)
  g_MOST_BOXES : Z.mg "MOST_BOXES" = some (.int 12 Z.t_MOST_BOXES)
  g_MOST_PARTS : Z.mg "MOST_PARTS" = some (.int 12 Z.t_MOST_PARTS)
  g_DEEPEST : Z.mg "DEEPEST" = some (.int 10 Z.t_DEEPEST)
  g_EARLY : Z.mg "EARLY" = some (.ref Z.a_EARLY)
  s_EARLY : ∀ H, SqT Z.K H Z.a_EARLY ([("set" : Str), ("all" : Str), ("pick" : Str), ("loop" : Str), ("call" : Str), ("fail" : Str), ("add" : Str), ("sub" : Str), ("mul" : Str)].map V.str)
  g_LATE : Z.mg "LATE" = some (.ref Z.a_LATE)
  s_LATE : ∀ H, SqT Z.K H Z.a_LATE ([("quo" : Str), ("rest" : Str), ("less" : Str), ("same" : Str), ("push" : Str), ("at" : Str), ("put" : Str), ("size" : Str), ("new" : Str)].map V.str)
  n_ValueError : Z.mg "ValueError" = none
  n_bool : Z.mg "bool" = none
  n_int : Z.mg "int" = none
  n_isinstance : Z.mg "isinstance" = none
  n_len : Z.mg "len" = none
  n_list : Z.mg "list" = none
  n_other : Z.mg "other" = none
  n_range : Z.mg "range" = none
  n_str : Z.mg "str" = none
  n_sum : Z.mg "sum" = none
  n_tuple : Z.mg "tuple" = none
  n_word : Z.mg "word" = none
  F_NoText_init : Fun Z.K "__init__" "NoText.__init__" st_NoText_init Z.f_NoText_init Z.d_NoText_init
  b_NoText_init : Binds Z.K Z.d_NoText_init ["self", "at"] []
  F_word_of : Fun Z.K "word_of" "word_of" st_word_of Z.f_word_of Z.d_word_of
  m_word_of : Z.mg "word_of" = some (.ref Z.f_word_of)
  b_word_of : Binds Z.K Z.d_word_of ["kind"] []
  F_kind_of : Fun Z.K "kind_of" "kind_of" st_kind_of Z.f_kind_of Z.d_kind_of
  m_kind_of : Z.mg "kind_of" = some (.ref Z.f_kind_of)
  b_kind_of : Binds Z.K Z.d_kind_of ["word"] []
  F_parts_of : Fun Z.K "parts_of" "parts_of" st_parts_of Z.f_parts_of Z.d_parts_of
  m_parts_of : Z.mg "parts_of" = some (.ref Z.f_parts_of)
  b_parts_of : Binds Z.K Z.d_parts_of ["kind"] []
  F_is_of : Fun Z.K "is_of" "is_of" st_is_of Z.f_is_of Z.d_is_of
  m_is_of : Z.mg "is_of" = some (.ref Z.f_is_of)
  b_is_of : Binds Z.K Z.d_is_of ["word", "signs", "most"] []
  F_is_name : Fun Z.K "is_name" "is_name" st_is_name Z.f_is_name Z.d_is_name
  m_is_name : Z.mg "is_name" = some (.ref Z.f_is_name)
  b_is_name : Binds Z.K Z.d_is_name ["word"] []
  F_is_number_of : Fun Z.K "is_number_of" "is_number_of" st_is_number_of Z.f_is_number_of Z.d_is_number_of
  m_is_number_of : Z.mg "is_number_of" = some (.ref Z.f_is_number_of)
  b_is_number_of : Binds Z.K Z.d_is_number_of ["word", "most"] []
  F_is_number_word : Fun Z.K "is_number_word" "is_number_word" st_is_number_word Z.f_is_number_word Z.d_is_number_word
  m_is_number_word : Z.mg "is_number_word" = some (.ref Z.f_is_number_word)
  b_is_number_word : Binds Z.K Z.d_is_number_word ["word"] []
  F_words_of : Fun Z.K "words_of" "words_of" st_words_of Z.f_words_of Z.d_words_of
  m_words_of : Z.mg "words_of" = some (.ref Z.f_words_of)
  b_words_of : Binds Z.K Z.d_words_of ["text"] []
  F_heads_inp : Fun Z.K "heads_in" "heads_in" st_heads_inp Z.f_heads_inp Z.d_heads_inp
  m_heads_inp : Z.mg "heads_in" = some (.ref Z.f_heads_inp)
  b_heads_inp : Binds Z.K Z.d_heads_inp ["words"] []
  F_Reader_init : Fun Z.K "__init__" "Reader.__init__" st_Reader_init Z.f_Reader_init Z.d_Reader_init
  b_Reader_init : Binds Z.K Z.d_Reader_init ["self", "words"] []
  F_Reader_is_left : Fun Z.K "is_left" "Reader.is_left" st_Reader_is_left Z.f_Reader_is_left Z.d_Reader_is_left
  b_Reader_is_left : Binds Z.K Z.d_Reader_is_left ["self"] []
  F_Reader_due : Fun Z.K "due" "Reader.due" st_Reader_due Z.f_Reader_due Z.d_Reader_due
  b_Reader_due : Binds Z.K Z.d_Reader_due ["self", "is_fit"] []
  F_Reader_fixed_word : Fun Z.K "fixed_word" "Reader.fixed_word" st_Reader_fixed_word Z.f_Reader_fixed_word Z.d_Reader_fixed_word
  b_Reader_fixed_word : Binds Z.K Z.d_Reader_fixed_word ["self", "word"] []
  F_Reader_fresh_name : Fun Z.K "fresh_name" "Reader.fresh_name" st_Reader_fresh_name Z.f_Reader_fresh_name Z.d_Reader_fresh_name
  b_Reader_fresh_name : Binds Z.K Z.d_Reader_fresh_name ["self", "taken"] []
  F_Reader_boxes_to : Fun Z.K "boxes_to" "Reader.boxes_to" st_Reader_boxes_to Z.f_Reader_boxes_to Z.d_Reader_boxes_to
  b_Reader_boxes_to : Binds Z.K Z.d_Reader_boxes_to ["self", "end", "boxes", "most"] []
  F_Reader_how_many : Fun Z.K "how_many" "Reader.how_many" st_Reader_how_many Z.f_Reader_how_many Z.d_Reader_how_many
  b_Reader_how_many : Binds Z.K Z.d_Reader_how_many ["self", "least"] []
  F_Reader_node : Fun Z.K "node" "Reader.node" st_Reader_node Z.f_Reader_node Z.d_Reader_node
  b_Reader_node : Binds Z.K Z.d_Reader_node ["self", "boxes", "deep"] []
  F_Reader_own_numbers : Fun Z.K "own_numbers" "Reader.own_numbers" st_Reader_own_numbers Z.f_Reader_own_numbers Z.d_Reader_own_numbers
  b_Reader_own_numbers : Binds Z.K Z.d_Reader_own_numbers ["self", "kind", "boxes"] []
  F_is_node_word : Fun Z.K "is_node_word" "is_node_word" st_is_node_word Z.f_is_node_word Z.d_is_node_word
  m_is_node_word : Z.mg "is_node_word" = some (.ref Z.f_is_node_word)
  b_is_node_word : Binds Z.K Z.d_is_node_word ["word", "boxes"] []
  F_read_text : Fun Z.K "read_text" "read_text" st_read_text Z.f_read_text Z.d_read_text
  m_read_text : Z.mg "read_text" = some (.ref Z.f_read_text)
  b_read_text : Binds Z.K Z.d_read_text ["text"] []
  F_Lpen : Fun Z.K "_law_pen" "_law_pen" st_Lpen Z.f_Lpen Z.d_Lpen
  m_Lpen : Z.mg "_law_pen" = some (.ref Z.f_Lpen)
  b_Lpen : Binds Z.K Z.d_Lpen ["_law_script", "_law_k"] []
  F_Ldraw : Fun Z.K "_law_draw" "_law_draw" st_Ldraw Z.f_Ldraw Z.d_Ldraw
  m_Ldraw : Z.mg "_law_draw" = some (.ref Z.f_Ldraw)
  b_Ldraw : Binds Z.K Z.d_Ldraw ["_law_pen_here", "_law_many"] []
  F_Lwords : Fun Z.K "_law_words" "_law_words" st_Lwords Z.f_Lwords Z.d_Lwords
  m_Lwords : Z.mg "_law_words" = some (.ref Z.f_Lwords)
  b_Lwords : Binds Z.K Z.d_Lwords [] []
  F_Lname : Fun Z.K "_law_name" "_law_name" st_Lname Z.f_Lname Z.d_Lname
  m_Lname : Z.mg "_law_name" = some (.ref Z.f_Lname)
  b_Lname : Binds Z.K Z.d_Lname ["_law_pen_here", "_law_taken"] []
  F_Lheads : Fun Z.K "_law_heads" "_law_heads" st_Lheads Z.f_Lheads Z.d_Lheads
  m_Lheads : Z.mg "_law_heads" = some (.ref Z.f_Lheads)
  b_Lheads : Binds Z.K Z.d_Lheads ["_law_pen_here", "_law_most"] []
  F_Lnumber : Fun Z.K "_law_number" "_law_number" st_Lnumber Z.f_Lnumber Z.d_Lnumber
  m_Lnumber : Z.mg "_law_number" = some (.ref Z.f_Lnumber)
  b_Lnumber : Binds Z.K Z.d_Lnumber ["_law_pen_here", "_law_is_far"] []
  F_Lshape : Fun Z.K "_law_shape" "_law_shape" st_Lshape Z.f_Lshape Z.d_Lshape
  m_Lshape : Z.mg "_law_shape" = some (.ref Z.f_Lshape)
  b_Lshape : Binds Z.K Z.d_Lshape ["_law_pen_here", "_law_heads_here", "_law_boxes", "_law_left", "_law_deep"] []
  F_Lprogram : Fun Z.K "_law_program" "_law_program" st_Lprogram Z.f_Lprogram Z.d_Lprogram
  m_Lprogram : Z.mg "_law_program" = some (.ref Z.f_Lprogram)
  b_Lprogram : Binds Z.K Z.d_Lprogram ["_law_pen_here", "_law_most", "_law_room"] []
  F_Lright : Fun Z.K "_law_right" "_law_right" st_Lright Z.f_Lright Z.d_Lright
  m_Lright : Z.mg "_law_right" = some (.ref Z.f_Lright)
  b_Lright : Binds Z.K Z.d_Lright ["_law_e", "_law_at"] []
  F_Lcaught : Fun Z.K "_law_caught" "_law_caught" st_Lcaught Z.f_Lcaught Z.d_Lcaught
  m_Lcaught : Z.mg "_law_caught" = some (.ref Z.f_Lcaught)
  b_Lcaught : Binds Z.K Z.d_Lcaught ["_law_text"] []
  F_Lbad_names : Fun Z.K "_law_bad_names" "_law_bad_names" st_Lbad_names Z.f_Lbad_names Z.d_Lbad_names
  m_Lbad_names : Z.mg "_law_bad_names" = some (.ref Z.f_Lbad_names)
  b_Lbad_names : Binds Z.K Z.d_Lbad_names [] []
  F_Lbad_heads : Fun Z.K "_law_bad_heads" "_law_bad_heads" st_Lbad_heads Z.f_Lbad_heads Z.d_Lbad_heads
  m_Lbad_heads : Z.mg "_law_bad_heads" = some (.ref Z.f_Lbad_heads)
  b_Lbad_heads : Binds Z.K Z.d_Lbad_heads ["_law_pen_here", "_law_names", "_law_number_here"] []
  F_Lbad_bodies : Fun Z.K "_law_bad_bodies" "_law_bad_bodies" st_Lbad_bodies Z.f_Lbad_bodies Z.d_Lbad_bodies
  m_Lbad_bodies : Z.mg "_law_bad_bodies" = some (.ref Z.f_Lbad_bodies)
  b_Lbad_bodies : Binds Z.K Z.d_Lbad_bodies ["_law_pen_here", "_law_names"] []
  F_Ltexts : Fun Z.K "_law_texts" "_law_texts" st_Ltexts Z.f_Ltexts Z.d_Ltexts
  m_Ltexts : Z.mg "_law_texts" = some (.ref Z.f_Ltexts)
  b_Ltexts : Binds Z.K Z.d_Ltexts [] []
  F_Lspoilt : Fun Z.K "_law_spoilt" "_law_spoilt" st_Lspoilt Z.f_Lspoilt Z.d_Lspoilt
  m_Lspoilt : Z.mg "_law_spoilt" = some (.ref Z.f_Lspoilt)
  b_Lspoilt : Binds Z.K Z.d_Lspoilt ["_law_pen_here", "_law_names", "_law_lines"] []
  F_Llone : Fun Z.K "_law_lone" "_law_lone" st_Llone Z.f_Llone Z.d_Llone
  m_Llone : Z.mg "_law_lone" = some (.ref Z.f_Llone)
  b_Llone : Binds Z.K Z.d_Llone ["_law_names", "_law_lines"] []
  F_law : Fun Z.K "law" "law" st_law Z.f_law Z.d_law
  m_law : Z.mg "law" = some (.ref Z.f_law)
  b_law : Binds Z.K Z.d_law ["_law_script"] []
  g_Reader : Z.mg "Reader" = some (.ref Z.c_Reader)
  cl_Reader : Cls Z.K Z.c_Reader
  M_Reader : Mk Z.K Z.c_Reader Z.f_Reader_init
  mt_Reader_is_left : Meth Z.K Z.c_Reader "is_left" Z.f_Reader_is_left
  mt_Reader_due : Meth Z.K Z.c_Reader "due" Z.f_Reader_due
  mt_Reader_fixed_word : Meth Z.K Z.c_Reader "fixed_word" Z.f_Reader_fixed_word
  mt_Reader_fresh_name : Meth Z.K Z.c_Reader "fresh_name" Z.f_Reader_fresh_name
  mt_Reader_boxes_to : Meth Z.K Z.c_Reader "boxes_to" Z.f_Reader_boxes_to
  mt_Reader_how_many : Meth Z.K Z.c_Reader "how_many" Z.f_Reader_how_many
  mt_Reader_node : Meth Z.K Z.c_Reader "node" Z.f_Reader_node
  mt_Reader_own_numbers : Meth Z.K Z.c_Reader "own_numbers" Z.f_Reader_own_numbers
  na_Reader_words : NoAttr Z.K Z.c_Reader "words"
  na_Reader_at : NoAttr Z.K Z.c_Reader "at"
  na_Reader_heads : NoAttr Z.K Z.c_Reader "heads"
  g_ChainError : Z.mg "ChainError" = some (.ref Z.c_ChainError)
  ri_ChainError : PySem.W.readsIn Z.K Z.c_ChainError (.type "type") = true
  rs_ChainError : PySem.W.specialIn Z.K (.ref Z.c_ChainError) "__getattribute__" = some (some (.builtin "type.__getattribute__"))
  rv_ChainError : PySem.W.findCls Z.K (.ref Z.c_ChainError) (.type "type") "__init__" = some (.val (.builtin "ValueError.__init__"))
  g_NoSheet : Z.mg "NoSheet" = some (.ref Z.c_NoSheet)
  g_NoText : Z.mg "NoText" = some (.ref Z.c_NoText)
  ox_NoText : OexC Z.K Z.c_NoText
  xf_NoText : XfC Z.K Z.c_NoText
  oi_NoText : PySem.W.findIn Z.K (.ref Z.c_NoText) "__init__" = some (some (.ref Z.f_NoText_init))
  ot_NoText : PySem.W.typeIn Z.K (.ref Z.f_NoText_init) = some (.type "function")
  na_NoText_at : PySem.W.findIn Z.K (.ref Z.c_NoText) "at" = some none
  kx_NoText : ExcC Z.K Z.c_NoText
  kv_NoText : PySem.W.kitOne Z.K (.ref Z.c_NoText) (.type "ValueError") = some true
  ki_NoText_NoCode : PySem.W.kitOne Z.K (.ref Z.c_NoText) (.ref Z.c_NoCode) = some false
  ki_NoText_NoName : PySem.W.kitOne Z.K (.ref Z.c_NoText) (.ref Z.c_NoName) = some false
  ki_NoText_NoRow : PySem.W.kitOne Z.K (.ref Z.c_NoText) (.ref Z.c_NoRow) = some false
  ki_NoText_NoSheet : PySem.W.kitOne Z.K (.ref Z.c_NoText) (.ref Z.c_NoSheet) = some false
  ki_NoText_NoText : PySem.W.kitOne Z.K (.ref Z.c_NoText) (.ref Z.c_NoText) = some true
  ex_NoText_ChainError : PySem.W.exmOne Z.K (.ref Z.c_NoText) (.ref Z.c_ChainError) = some true
  g_NoCode : Z.mg "NoCode" = some (.ref Z.c_NoCode)
  g_NoRow : Z.mg "NoRow" = some (.ref Z.c_NoRow)
  g_NoName : Z.mg "NoName" = some (.ref Z.c_NoName)
  cd_Reader_fixed_word : Z.d_Reader_fixed_word.code = .ref Z.cc_Reader_fixed_word
  tq_Reader_fixed_word : TQ.q Z.p_Reader_fixed_word = ("Reader.fixed_word" ++ ".<locals>.") ++ "<lambda>"
  cd_Reader_fresh_name : Z.d_Reader_fresh_name.code = .ref Z.cc_Reader_fresh_name
  tq_Reader_fresh_name : TQ.q Z.p_Reader_fresh_name = ("Reader.fresh_name" ++ ".<locals>.") ++ "<lambda>"
  cd_Reader_how_many : Z.d_Reader_how_many.code = .ref Z.cc_Reader_how_many
  tq_Reader_how_many : TQ.q Z.p_Reader_how_many = ("Reader.how_many" ++ ".<locals>.") ++ "<lambda>"
  cd_Reader_node : Z.d_Reader_node.code = .ref Z.cc_Reader_node
  tq_Reader_node : TQ.q Z.p_Reader_node = ("Reader.node" ++ ".<locals>.") ++ "<lambda>"
  cd_Reader_own_numbers : Z.d_Reader_own_numbers.code = .ref Z.cc_Reader_own_numbers
  tq_Reader_own_numbers : TQ.q Z.p_Reader_own_numbers = ("Reader.own_numbers" ++ ".<locals>.") ++ "<lambda>"
theorem Top.k_all {Z : Adr} (_ : Top Z) : True := trivial
/-- the tables of code objects -/
structure TBs (base : Heap) (Z : Adr) : Prop where
  b_Reader_fixed_word : LamX.TabB base Z.mg Z.cc_Reader_fixed_word Z.p_Reader_fixed_word
  b_Reader_fresh_name : LamX.TabB base Z.mg Z.cc_Reader_fresh_name Z.p_Reader_fresh_name
  b_Reader_how_many : LamX.TabB base Z.mg Z.cc_Reader_how_many Z.p_Reader_how_many
  b_Reader_node : LamX.TabB base Z.mg Z.cc_Reader_node Z.p_Reader_node
  b_Reader_own_numbers : LamX.TabB base Z.mg Z.cc_Reader_own_numbers Z.p_Reader_own_numbers
structure TabsZ (Z : Adr) (H : Hp) : Prop where
  t_Reader_fixed_word : TabG H Z.p_Reader_fixed_word
  t_Reader_fresh_name : TabG H Z.p_Reader_fresh_name
  t_Reader_how_many : TabG H Z.p_Reader_how_many
  t_Reader_node : TabG H Z.p_Reader_node
  t_Reader_own_numbers : TabG H Z.p_Reader_own_numbers
theorem TabsZ.same {Z : Adr} {H H' : Hp} (t : TabsZ Z H) (S : Same H H') : TabsZ Z H' := ⟨S.tt _ t.t_Reader_fixed_word, S.tt _ t.t_Reader_fresh_name, S.tt _ t.t_Reader_how_many, S.tt _ t.t_Reader_node, S.tt _ t.t_Reader_own_numbers⟩
theorem TabsZ.but {Z : Adr} {p : Addr} {H H' : Hp} (t : TabsZ Z H) (B : But p H H') : TabsZ Z H' := ⟨B.tt _ t.t_Reader_fixed_word, B.tt _ t.t_Reader_fresh_name, B.tt _ t.t_Reader_how_many, B.tt _ t.t_Reader_node, B.tt _ t.t_Reader_own_numbers⟩
theorem TabsZ.but2 {Z : Adr} {p q : Addr} {H H' : Hp} (t : TabsZ Z H) (B : But2 p q H H') : TabsZ Z H' := ⟨B.tt _ t.t_Reader_fixed_word, B.tt _ t.t_Reader_fresh_name, B.tt _ t.t_Reader_how_many, B.tt _ t.t_Reader_node, B.tt _ t.t_Reader_own_numbers⟩
theorem Top.k_NoText_init {Z : Adr} (T : Top Z) : PySem.W.keepIn Z.K (.ref Z.f_NoText_init) = true := T.F_NoText_init.kp
theorem Top.k_word_of {Z : Adr} (T : Top Z) : PySem.W.keepIn Z.K (.ref Z.f_word_of) = true := T.F_word_of.kp
theorem Top.k_kind_of {Z : Adr} (T : Top Z) : PySem.W.keepIn Z.K (.ref Z.f_kind_of) = true := T.F_kind_of.kp
theorem Top.k_parts_of {Z : Adr} (T : Top Z) : PySem.W.keepIn Z.K (.ref Z.f_parts_of) = true := T.F_parts_of.kp
theorem Top.k_is_of {Z : Adr} (T : Top Z) : PySem.W.keepIn Z.K (.ref Z.f_is_of) = true := T.F_is_of.kp
theorem Top.k_is_name {Z : Adr} (T : Top Z) : PySem.W.keepIn Z.K (.ref Z.f_is_name) = true := T.F_is_name.kp
theorem Top.k_is_number_of {Z : Adr} (T : Top Z) : PySem.W.keepIn Z.K (.ref Z.f_is_number_of) = true := T.F_is_number_of.kp
theorem Top.k_is_number_word {Z : Adr} (T : Top Z) : PySem.W.keepIn Z.K (.ref Z.f_is_number_word) = true := T.F_is_number_word.kp
theorem Top.k_words_of {Z : Adr} (T : Top Z) : PySem.W.keepIn Z.K (.ref Z.f_words_of) = true := T.F_words_of.kp
theorem Top.k_heads_inp {Z : Adr} (T : Top Z) : PySem.W.keepIn Z.K (.ref Z.f_heads_inp) = true := T.F_heads_inp.kp
theorem Top.k_Reader_init {Z : Adr} (T : Top Z) : PySem.W.keepIn Z.K (.ref Z.f_Reader_init) = true := T.F_Reader_init.kp
theorem Top.k_Reader_is_left {Z : Adr} (T : Top Z) : PySem.W.keepIn Z.K (.ref Z.f_Reader_is_left) = true := T.F_Reader_is_left.kp
theorem Top.k_Reader_due {Z : Adr} (T : Top Z) : PySem.W.keepIn Z.K (.ref Z.f_Reader_due) = true := T.F_Reader_due.kp
theorem Top.k_Reader_fixed_word {Z : Adr} (T : Top Z) : PySem.W.keepIn Z.K (.ref Z.f_Reader_fixed_word) = true := T.F_Reader_fixed_word.kp
theorem Top.k_Reader_fresh_name {Z : Adr} (T : Top Z) : PySem.W.keepIn Z.K (.ref Z.f_Reader_fresh_name) = true := T.F_Reader_fresh_name.kp
theorem Top.k_Reader_boxes_to {Z : Adr} (T : Top Z) : PySem.W.keepIn Z.K (.ref Z.f_Reader_boxes_to) = true := T.F_Reader_boxes_to.kp
theorem Top.k_Reader_how_many {Z : Adr} (T : Top Z) : PySem.W.keepIn Z.K (.ref Z.f_Reader_how_many) = true := T.F_Reader_how_many.kp
theorem Top.k_Reader_node {Z : Adr} (T : Top Z) : PySem.W.keepIn Z.K (.ref Z.f_Reader_node) = true := T.F_Reader_node.kp
theorem Top.k_Reader_own_numbers {Z : Adr} (T : Top Z) : PySem.W.keepIn Z.K (.ref Z.f_Reader_own_numbers) = true := T.F_Reader_own_numbers.kp
theorem Top.k_is_node_word {Z : Adr} (T : Top Z) : PySem.W.keepIn Z.K (.ref Z.f_is_node_word) = true := T.F_is_node_word.kp
theorem Top.k_read_text {Z : Adr} (T : Top Z) : PySem.W.keepIn Z.K (.ref Z.f_read_text) = true := T.F_read_text.kp
theorem Top.k_Lpen {Z : Adr} (T : Top Z) : PySem.W.keepIn Z.K (.ref Z.f_Lpen) = true := T.F_Lpen.kp
theorem Top.k_Ldraw {Z : Adr} (T : Top Z) : PySem.W.keepIn Z.K (.ref Z.f_Ldraw) = true := T.F_Ldraw.kp
theorem Top.k_Lwords {Z : Adr} (T : Top Z) : PySem.W.keepIn Z.K (.ref Z.f_Lwords) = true := T.F_Lwords.kp
theorem Top.k_Lname {Z : Adr} (T : Top Z) : PySem.W.keepIn Z.K (.ref Z.f_Lname) = true := T.F_Lname.kp
theorem Top.k_Lheads {Z : Adr} (T : Top Z) : PySem.W.keepIn Z.K (.ref Z.f_Lheads) = true := T.F_Lheads.kp
theorem Top.k_Lnumber {Z : Adr} (T : Top Z) : PySem.W.keepIn Z.K (.ref Z.f_Lnumber) = true := T.F_Lnumber.kp
theorem Top.k_Lshape {Z : Adr} (T : Top Z) : PySem.W.keepIn Z.K (.ref Z.f_Lshape) = true := T.F_Lshape.kp
theorem Top.k_Lprogram {Z : Adr} (T : Top Z) : PySem.W.keepIn Z.K (.ref Z.f_Lprogram) = true := T.F_Lprogram.kp
theorem Top.k_Lright {Z : Adr} (T : Top Z) : PySem.W.keepIn Z.K (.ref Z.f_Lright) = true := T.F_Lright.kp
theorem Top.k_Lcaught {Z : Adr} (T : Top Z) : PySem.W.keepIn Z.K (.ref Z.f_Lcaught) = true := T.F_Lcaught.kp
theorem Top.k_Lbad_names {Z : Adr} (T : Top Z) : PySem.W.keepIn Z.K (.ref Z.f_Lbad_names) = true := T.F_Lbad_names.kp
theorem Top.k_Lbad_heads {Z : Adr} (T : Top Z) : PySem.W.keepIn Z.K (.ref Z.f_Lbad_heads) = true := T.F_Lbad_heads.kp
theorem Top.k_Lbad_bodies {Z : Adr} (T : Top Z) : PySem.W.keepIn Z.K (.ref Z.f_Lbad_bodies) = true := T.F_Lbad_bodies.kp
theorem Top.k_Ltexts {Z : Adr} (T : Top Z) : PySem.W.keepIn Z.K (.ref Z.f_Ltexts) = true := T.F_Ltexts.kp
theorem Top.k_Lspoilt {Z : Adr} (T : Top Z) : PySem.W.keepIn Z.K (.ref Z.f_Lspoilt) = true := T.F_Lspoilt.kp
theorem Top.k_Llone {Z : Adr} (T : Top Z) : PySem.W.keepIn Z.K (.ref Z.f_Llone) = true := T.F_Llone.kp
theorem Top.k_law {Z : Adr} (T : Top Z) : PySem.W.keepIn Z.K (.ref Z.f_law) = true := T.F_law.kp
def fs_Reader (v_words v_at v_heads : V) : List (Str × V) := [(("words" : Str), v_words), (("at" : Str), v_at), (("heads" : Str), v_heads)]
def fi_Reader_1 (v_words : V) : List (Str × V) := [(("words" : Str), v_words)]
def fi_Reader_2 (v_words v_at : V) : List (Str × V) := [(("words" : Str), v_words), (("at" : Str), v_at)]
theorem get_Reader_words {v_words v_at v_heads : V} : (fs_Reader v_words v_at v_heads).lookup ("words" : Str) = some v_words := by unfold fs_Reader; rw [lk_eq]
theorem put_Reader_words {v_words v_at v_heads y : V} : putF ("words" : Str) y (fs_Reader v_words v_at v_heads) = fs_Reader y v_at v_heads := by unfold fs_Reader; rw [pu_eq]
theorem fg_Reader_words {Z : Adr} (T : Top Z) {H : Hp} {p dx : Addr} {v_words v_at v_heads : V} {Q : VK} (h1 : H p = some (.ins Z.c_Reader dx (fs_Reader v_words v_at v_heads))) (q : Q v_words H) : zFld Z.K (.ref p) ("words" : Str) H Q := s_zFld h1 T.cl_Reader T.na_Reader_words get_Reader_words q
theorem fp_Reader_words {Z : Adr} (T : Top Z) {H : Hp} {p dx : Addr} {v_words v_at v_heads y : V} {N1 : Hp → Prop} (h1 : H p = some (.ins Z.c_Reader dx (fs_Reader v_words v_at v_heads))) (h : ∀ H', But p H H' → H' p = some (.ins Z.c_Reader dx (fs_Reader y v_at v_heads)) → N1 H') : zPutF Z.K (.ref p) ("words" : Str) y H N1 := c_fld h1 T.cl_Reader T.na_Reader_words (by show 3 < 1000; decide) put_Reader_words h
theorem fn_Reader_words {Z : Adr} (T : Top Z) {H : Hp} {p dx : Addr} { y : V} {N1 : Hp → Prop} (h1 : H p = some (.ins Z.c_Reader dx [])) (h : ∀ H', But p H H' → H' p = some (.ins Z.c_Reader dx (fi_Reader_1  y)) → N1 H') : zPutF Z.K (.ref p) ("words" : Str) y H N1 := c_fld h1 T.cl_Reader T.na_Reader_words (by show 0 < 1000; decide) (by rw [pu_nil]; rfl) h
theorem get_Reader_at {v_words v_at v_heads : V} : (fs_Reader v_words v_at v_heads).lookup ("at" : Str) = some v_at := by unfold fs_Reader; rw [lk_ne (by decide +kernel), lk_eq]
theorem put_Reader_at {v_words v_at v_heads y : V} : putF ("at" : Str) y (fs_Reader v_words v_at v_heads) = fs_Reader v_words y v_heads := by unfold fs_Reader; rw [pu_ne (by decide +kernel), pu_eq]
theorem fg_Reader_at {Z : Adr} (T : Top Z) {H : Hp} {p dx : Addr} {v_words v_at v_heads : V} {Q : VK} (h1 : H p = some (.ins Z.c_Reader dx (fs_Reader v_words v_at v_heads))) (q : Q v_at H) : zFld Z.K (.ref p) ("at" : Str) H Q := s_zFld h1 T.cl_Reader T.na_Reader_at get_Reader_at q
theorem fp_Reader_at {Z : Adr} (T : Top Z) {H : Hp} {p dx : Addr} {v_words v_at v_heads y : V} {N1 : Hp → Prop} (h1 : H p = some (.ins Z.c_Reader dx (fs_Reader v_words v_at v_heads))) (h : ∀ H', But p H H' → H' p = some (.ins Z.c_Reader dx (fs_Reader v_words y v_heads)) → N1 H') : zPutF Z.K (.ref p) ("at" : Str) y H N1 := c_fld h1 T.cl_Reader T.na_Reader_at (by show 3 < 1000; decide) put_Reader_at h
theorem fn_Reader_at {Z : Adr} (T : Top Z) {H : Hp} {p dx : Addr} {v_words y : V} {N1 : Hp → Prop} (h1 : H p = some (.ins Z.c_Reader dx (fi_Reader_1 v_words))) (h : ∀ H', But p H H' → H' p = some (.ins Z.c_Reader dx (fi_Reader_2 v_words y)) → N1 H') : zPutF Z.K (.ref p) ("at" : Str) y H N1 := c_fld h1 T.cl_Reader T.na_Reader_at (by show 1 < 1000; decide) (by unfold fi_Reader_1; rw [pu_ne (by decide +kernel), pu_nil]; rfl) h
theorem get_Reader_heads {v_words v_at v_heads : V} : (fs_Reader v_words v_at v_heads).lookup ("heads" : Str) = some v_heads := by unfold fs_Reader; rw [lk_ne (by decide +kernel), lk_ne (by decide +kernel), lk_eq]
theorem put_Reader_heads {v_words v_at v_heads y : V} : putF ("heads" : Str) y (fs_Reader v_words v_at v_heads) = fs_Reader v_words v_at y := by unfold fs_Reader; rw [pu_ne (by decide +kernel), pu_ne (by decide +kernel), pu_eq]
theorem fg_Reader_heads {Z : Adr} (T : Top Z) {H : Hp} {p dx : Addr} {v_words v_at v_heads : V} {Q : VK} (h1 : H p = some (.ins Z.c_Reader dx (fs_Reader v_words v_at v_heads))) (q : Q v_heads H) : zFld Z.K (.ref p) ("heads" : Str) H Q := s_zFld h1 T.cl_Reader T.na_Reader_heads get_Reader_heads q
theorem fp_Reader_heads {Z : Adr} (T : Top Z) {H : Hp} {p dx : Addr} {v_words v_at v_heads y : V} {N1 : Hp → Prop} (h1 : H p = some (.ins Z.c_Reader dx (fs_Reader v_words v_at v_heads))) (h : ∀ H', But p H H' → H' p = some (.ins Z.c_Reader dx (fs_Reader v_words v_at y)) → N1 H') : zPutF Z.K (.ref p) ("heads" : Str) y H N1 := c_fld h1 T.cl_Reader T.na_Reader_heads (by show 3 < 1000; decide) put_Reader_heads h
theorem fn_Reader_heads {Z : Adr} (T : Top Z) {H : Hp} {p dx : Addr} {v_words v_at y : V} {N1 : Hp → Prop} (h1 : H p = some (.ins Z.c_Reader dx (fi_Reader_2 v_words v_at))) (h : ∀ H', But p H H' → H' p = some (.ins Z.c_Reader dx (fs_Reader v_words v_at y)) → N1 H') : zPutF Z.K (.ref p) ("heads" : Str) y H N1 := c_fld h1 T.cl_Reader T.na_Reader_heads (by show 2 < 1000; decide) (by unfold fi_Reader_2; rw [pu_ne (by decide +kernel), pu_ne (by decide +kernel), pu_nil]; rfl) h
theorem nx_Reader_is_left {v_words v_at v_heads : V} : (fs_Reader v_words v_at v_heads).lookup ("is_left" : Str) = none := by unfold fs_Reader; rw [lk_ne (by decide +kernel), lk_ne (by decide +kernel), lk_ne (by decide +kernel)]; rfl
theorem ms_Reader_is_left {Z : Adr} {H : Hp} {p dx : Addr} {v_words v_at v_heads : V} {N1 : Prop} (h1 : H p = some (.ins Z.c_Reader dx (fs_Reader v_words v_at v_heads))) (h : N1) : zSelf Z.c_Reader ("is_left" : Str) (.ref p) H N1 := s_zself h1 nx_Reader_is_left h
theorem nx_Reader_due {v_words v_at v_heads : V} : (fs_Reader v_words v_at v_heads).lookup ("due" : Str) = none := by unfold fs_Reader; rw [lk_ne (by decide +kernel), lk_ne (by decide +kernel), lk_ne (by decide +kernel)]; rfl
theorem ms_Reader_due {Z : Adr} {H : Hp} {p dx : Addr} {v_words v_at v_heads : V} {N1 : Prop} (h1 : H p = some (.ins Z.c_Reader dx (fs_Reader v_words v_at v_heads))) (h : N1) : zSelf Z.c_Reader ("due" : Str) (.ref p) H N1 := s_zself h1 nx_Reader_due h
theorem nx_Reader_fixed_word {v_words v_at v_heads : V} : (fs_Reader v_words v_at v_heads).lookup ("fixed_word" : Str) = none := by unfold fs_Reader; rw [lk_ne (by decide +kernel), lk_ne (by decide +kernel), lk_ne (by decide +kernel)]; rfl
theorem ms_Reader_fixed_word {Z : Adr} {H : Hp} {p dx : Addr} {v_words v_at v_heads : V} {N1 : Prop} (h1 : H p = some (.ins Z.c_Reader dx (fs_Reader v_words v_at v_heads))) (h : N1) : zSelf Z.c_Reader ("fixed_word" : Str) (.ref p) H N1 := s_zself h1 nx_Reader_fixed_word h
theorem nx_Reader_fresh_name {v_words v_at v_heads : V} : (fs_Reader v_words v_at v_heads).lookup ("fresh_name" : Str) = none := by unfold fs_Reader; rw [lk_ne (by decide +kernel), lk_ne (by decide +kernel), lk_ne (by decide +kernel)]; rfl
theorem ms_Reader_fresh_name {Z : Adr} {H : Hp} {p dx : Addr} {v_words v_at v_heads : V} {N1 : Prop} (h1 : H p = some (.ins Z.c_Reader dx (fs_Reader v_words v_at v_heads))) (h : N1) : zSelf Z.c_Reader ("fresh_name" : Str) (.ref p) H N1 := s_zself h1 nx_Reader_fresh_name h
theorem nx_Reader_boxes_to {v_words v_at v_heads : V} : (fs_Reader v_words v_at v_heads).lookup ("boxes_to" : Str) = none := by unfold fs_Reader; rw [lk_ne (by decide +kernel), lk_ne (by decide +kernel), lk_ne (by decide +kernel)]; rfl
theorem ms_Reader_boxes_to {Z : Adr} {H : Hp} {p dx : Addr} {v_words v_at v_heads : V} {N1 : Prop} (h1 : H p = some (.ins Z.c_Reader dx (fs_Reader v_words v_at v_heads))) (h : N1) : zSelf Z.c_Reader ("boxes_to" : Str) (.ref p) H N1 := s_zself h1 nx_Reader_boxes_to h
theorem nx_Reader_how_many {v_words v_at v_heads : V} : (fs_Reader v_words v_at v_heads).lookup ("how_many" : Str) = none := by unfold fs_Reader; rw [lk_ne (by decide +kernel), lk_ne (by decide +kernel), lk_ne (by decide +kernel)]; rfl
theorem ms_Reader_how_many {Z : Adr} {H : Hp} {p dx : Addr} {v_words v_at v_heads : V} {N1 : Prop} (h1 : H p = some (.ins Z.c_Reader dx (fs_Reader v_words v_at v_heads))) (h : N1) : zSelf Z.c_Reader ("how_many" : Str) (.ref p) H N1 := s_zself h1 nx_Reader_how_many h
theorem nx_Reader_node {v_words v_at v_heads : V} : (fs_Reader v_words v_at v_heads).lookup ("node" : Str) = none := by unfold fs_Reader; rw [lk_ne (by decide +kernel), lk_ne (by decide +kernel), lk_ne (by decide +kernel)]; rfl
theorem ms_Reader_node {Z : Adr} {H : Hp} {p dx : Addr} {v_words v_at v_heads : V} {N1 : Prop} (h1 : H p = some (.ins Z.c_Reader dx (fs_Reader v_words v_at v_heads))) (h : N1) : zSelf Z.c_Reader ("node" : Str) (.ref p) H N1 := s_zself h1 nx_Reader_node h
theorem nx_Reader_own_numbers {v_words v_at v_heads : V} : (fs_Reader v_words v_at v_heads).lookup ("own_numbers" : Str) = none := by unfold fs_Reader; rw [lk_ne (by decide +kernel), lk_ne (by decide +kernel), lk_ne (by decide +kernel)]; rfl
theorem ms_Reader_own_numbers {Z : Adr} {H : Hp} {p dx : Addr} {v_words v_at v_heads : V} {N1 : Prop} (h1 : H p = some (.ins Z.c_Reader dx (fs_Reader v_words v_at v_heads))) (h : N1) : zSelf Z.c_Reader ("own_numbers" : Str) (.ref p) H N1 := s_zself h1 nx_Reader_own_numbers h
/-! ### nodes as trees -/
inductive Nd where
  | mk (kind place : Int) (nums : List Int) (parts : List Nd)
def Nd.kind : Nd → Int
  | .mk k _ _ _ => k
def Nd.place : Nd → Int
  | .mk _ p _ _ => p
def Nd.nums : Nd → List Int
  | .mk _ _ ns _ => ns
def Nd.parts : Nd → List Nd
  | .mk _ _ _ ps => ps
mutual
/-- a node as it lies: tuples all through -/
def NodeAt (H : Hp) : Nd → V → Prop
  | .mk k p ns ps, v => ∃ (t tn tp : Addr) (vs : List V), v = .ref t ∧ H t = some (.tup [.int k, .int p, .ref tn, .ref tp]) ∧ H tn = some (.tup (ns.map V.int)) ∧ H tp = some (.tup vs) ∧ NodesAt H ps vs
def NodesAt (H : Hp) : List Nd → List V → Prop
  | [], vs => vs = []
  | n :: ns, vs => ∃ v r, vs = v :: r ∧ NodeAt H n v ∧ NodesAt H ns r
end
mutual
theorem NodeAt.mono {H H' : Hp} (S : TupS H H') : ∀ {n : Nd} {v : V}, NodeAt H n v → NodeAt H' n v
  | .mk _ _ _ _, _, ⟨t, tn, tp, vs, e, h1, h2, h3, h4⟩ => ⟨t, tn, tp, vs, e, S _ _ h1, S _ _ h2, S _ _ h3, NodesAt.mono S h4⟩
theorem NodesAt.mono {H H' : Hp} (S : TupS H H') : ∀ {ns : List Nd} {vs : List V}, NodesAt H ns vs → NodesAt H' ns vs
  | [], _, h => h
  | _ :: _, _, ⟨v, r, e, h1, h2⟩ => ⟨v, r, e, NodeAt.mono S h1, NodesAt.mono S h2⟩
end
theorem NodesAt.len {H : Hp} : ∀ {ns : List Nd} {vs : List V}, NodesAt H ns vs → vs.length = ns.length
  | [], _, h => by rw [show _ = [] from h]; rfl
  | _ :: _, _, ⟨v, r, e, _, h2⟩ => by rw [e, List.length_cons, List.length_cons, NodesAt.len h2]
theorem NodesAt.get {H : Hp} : ∀ {ns : List Nd} {vs : List V} {i : Nat} {v : V}, NodesAt H ns vs → vs[i]? = some v → ∃ n, ns[i]? = some n ∧ NodeAt H n v
  | [], _, _, _, h, e => by rw [show _ = [] from h] at e; simp at e
  | n :: _, _, 0, _, ⟨v, r, e0, h1, h2⟩, e => by rw [e0] at e; cases e; exact ⟨n, rfl, h1⟩
  | _ :: ns, _, i + 1, _, ⟨v, r, e0, h1, h2⟩, e => by
    rw [e0] at e
    obtain ⟨n, en, hn⟩ := NodesAt.get (ns := ns) (i := i) h2 (by simpa using e)
    exact ⟨n, by simpa using en, hn⟩
theorem NodesAt.app {H : Hp} : ∀ {ns : List Nd} {vs : List V} {n : Nd} {v : V}, NodesAt H ns vs → NodeAt H n v → NodesAt H (ns ++ [n]) (vs ++ [v])
  | [], _, n, v, h, hn => by rw [show _ = [] from h]; exact ⟨v, [], rfl, hn, rfl⟩
  | _ :: _, _, n, v, ⟨w, r, e, h1, h2⟩, hn => by rw [e]; exact ⟨w, r ++ [v], rfl, h1, NodesAt.app h2 hn⟩

/-! ### how a sheet is read -/
abbrev Rz (α : Type) := Except (Int × Str) α
def bindR {α β : Type} (x : Rz α) (f : α → Rz β) : Rz β := match x with
  | .ok a => f a
  | .error e => .error e
theorem bindR_ok {α β : Type} {x : Rz α} {f : α → Rz β} {b : β} (h : bindR x f = .ok b) : ∃ a, x = .ok a ∧ f a = .ok b := by
  cases x with
  | ok a => exact ⟨a, rfl, h⟩
  | error e => cases h
theorem bindR_of {α β : Type} {x : Rz α} {f : α → Rz β} {a : α} (h : x = .ok a) : bindR x f = f a := by rw [h]; rfl
def dueP (xs : List Int) (k : Nat) : Rz Int := match xs[k]? with
  | none => .error (k, "end")
  | some v => .ok v
def withinP (xs : List Int) (k : Nat) (lo hi : Int) : Rz Int := bindR (dueP xs k) fun v => if lo ≤ v ∧ v ≤ hi then .ok v else .error (k, "range")
theorem dueP_ok {xs : List Int} {k : Nat} {v : Int} (h : dueP xs k = .ok v) : xs[k]? = some v := by
  unfold dueP at h
  split at h
  · cases h
  · cases h; assumption
theorem dueP_of {xs : List Int} {k : Nat} {v : Int} (h : xs[k]? = some v) : dueP xs k = .ok v := by unfold dueP; rw [h]
theorem withinP_ok {xs : List Int} {k : Nat} {lo hi v : Int} (h : withinP xs k lo hi = .ok v) : xs[k]? = some v ∧ lo ≤ v ∧ v ≤ hi := by
  obtain ⟨a, h1, h2⟩ := bindR_ok h
  split at h2
  · cases h2; exact ⟨dueP_ok h1, by assumption⟩
  · cases h2
theorem withinP_of {xs : List Int} {k : Nat} {lo hi v : Int} (h : xs[k]? = some v) (h1 : lo ≤ v) (h2 : v ≤ hi) : withinP xs k lo hi = .ok v := by
  unfold withinP
  rw [bindR_of (dueP_of h), if_pos ⟨h1, h2⟩]
def manyP (i : Int) : Int := if i = 19 then 0 else if i = 7 ∨ i = 18 then 1 else if i = 17 then 3 else 2
/-- a node's own numbers, how many parts it has, the place behind -/
def ownP (xs : List Int) (hs : List (Int × Int)) (bx kind : Int) (k : Nat) : Rz (List Int × Int × Nat) :=
  if kind = 0 then bindR (dueP xs k) fun v => .ok ([v], 0, k + 1)
  else if kind = 1 then bindR (withinP xs k 0 (bx - 1)) fun v => .ok ([v], 0, k + 1)
  else if kind = 2 then bindR (withinP xs k 0 (bx - 1)) fun v => .ok ([v], 1, k + 1)
  else if kind = 3 then bindR (withinP xs k 1 12) fun v => .ok ([v], v, k + 1)
  else if kind = 4 then bindR (withinP xs k 2 12) fun v => .ok ([v], v + 1, k + 1)
  else if kind = 6 then bindR (withinP xs k 0 (hs.length - 1)) fun v => .ok ([v], (hs.getD v.toNat (0, 0)).1, k + 1)
  else if kind = 5 then .ok ([], 2, k)
  else .ok ([], manyP kind, k)
def partsP (f : Nat → Rz (Nd × Nat)) : Nat → Nat → Rz (List Nd × Nat)
  | 0, k => .ok ([], k)
  | m + 1, k => bindR (partsP f m k) fun a => bindR (f a.2) fun b => .ok (a.1 ++ [b.1], b.2)
theorem partsP_pre {f : Nat → Rz (Nd × Nat)} {k : Nat} {i : Nat} : ∀ {m : Nat} {r : List Nd × Nat}, partsP f m k = .ok r → i ≤ m → ∃ r', partsP f i k = .ok r'
  | 0, r, h, hi => by
    cases Nat.le_zero.mp hi
    exact ⟨r, h⟩
  | m + 1, r, h, hi => by
    by_cases e : i = m + 1
    · subst e; exact ⟨r, h⟩
    · obtain ⟨a, h1, _⟩ := bindR_ok h
      exact partsP_pre h1 (by omega)
theorem partsP_step {f : Nat → Rz (Nd × Nat)} {k i : Nat} {r r' : List Nd × Nat} (h : partsP f (i + 1) k = .ok r) (h' : partsP f i k = .ok r') : ∃ b, f r'.2 = .ok b ∧ r = (r'.1 ++ [b.1], b.2) := by
  obtain ⟨a, h1, h2⟩ := bindR_ok h
  rw [h'] at h1
  cases h1
  obtain ⟨b, h3, h4⟩ := bindR_ok h2
  cases h4
  exact ⟨b, h3, rfl⟩
theorem partsP_len {f : Nat → Rz (Nd × Nat)} {k : Nat} : ∀ {m : Nat} {r : List Nd × Nat}, partsP f m k = .ok r → r.1.length = m
  | 0, r, h => by cases h; rfl
  | m + 1, r, h => by
    obtain ⟨a, h1, h2⟩ := bindR_ok h
    obtain ⟨b, h3, h4⟩ := bindR_ok h2
    cases h4
    rw [List.length_append, partsP_len h1]
    rfl
/-- a node: fuel is 11 - deep -/
def nodeP (xs : List Int) (hs : List (Int × Int)) (bx : Int) : Nat → Nat → Rz (Nd × Nat)
  | 0, k => .error (k, "deep")
  | f + 1, k => bindR (withinP xs k 0 19) fun kind => bindR (ownP xs hs bx kind (k + 1)) fun o => bindR (partsP (nodeP xs hs bx f) o.2.1.toNat o.2.2) fun p => .ok (.mk kind k o.1 p.1, p.2)
theorem nodeP_ok {xs : List Int} {hs : List (Int × Int)} {bx : Int} {f k : Nat} {r : Nd × Nat} (h : nodeP xs hs bx (f + 1) k = .ok r) : ∃ kind o p, xs[k]? = some kind ∧ 0 ≤ kind ∧ kind ≤ 19 ∧ ownP xs hs bx kind (k + 1) = .ok o ∧
    partsP (nodeP xs hs bx f) o.2.1.toNat o.2.2 = .ok p ∧ r = (.mk kind k o.1 p.1, p.2) := by
  unfold nodeP at h
  obtain ⟨kind, h1, h2⟩ := bindR_ok h
  obtain ⟨o, h3, h4⟩ := bindR_ok h2
  obtain ⟨p, h5, h6⟩ := bindR_ok h4
  cases h6
  obtain ⟨a, b, c⟩ := withinP_ok h1
  exact ⟨kind, o, p, a, b, c, h3, h5, rfl⟩
def headsL (xs : List Int) : Nat → Rz (List (Int × Int))
  | 0 => .ok []
  | i + 1 => bindR (headsL xs i) fun hs => bindR (withinP xs (1 + 2 * i) 0 (if 0 < i then 4 else 0)) fun p => bindR (withinP xs (2 + 2 * i) p 12) fun b => .ok (hs ++ [(p, b)])
def headsP (xs : List Int) : Rz (List (Int × Int)) := bindR (withinP xs 0 1 16) fun n => headsL xs n.toNat
theorem headsL_pre {xs : List Int} {i : Nat} : ∀ {m : Nat} {r : List (Int × Int)}, headsL xs m = .ok r → i ≤ m → ∃ r', headsL xs i = .ok r'
  | 0, r, h, hi => by
    cases Nat.le_zero.mp hi
    exact ⟨r, h⟩
  | m + 1, r, h, hi => by
    by_cases e : i = m + 1
    · subst e; exact ⟨r, h⟩
    · obtain ⟨a, h1, _⟩ := bindR_ok h
      exact headsL_pre h1 (by omega)
theorem headsL_step {xs : List Int} {i : Nat} {r r' : List (Int × Int)} (h : headsL xs (i + 1) = .ok r) (h' : headsL xs i = .ok r') : ∃ p b, withinP xs (1 + 2 * i) 0 (if 0 < i then 4 else 0) = .ok p ∧ withinP xs (2 + 2 * i) p 12 = .ok b ∧ r = r' ++ [(p, b)] := by
  obtain ⟨a, h1, h2⟩ := bindR_ok h
  rw [h'] at h1
  cases h1
  obtain ⟨p, h3, h4⟩ := bindR_ok h2
  obtain ⟨b, h5, h6⟩ := bindR_ok h4
  cases h6
  exact ⟨p, b, h3, h5, rfl⟩
theorem headsL_len {xs : List Int} : ∀ {m : Nat} {r : List (Int × Int)}, headsL xs m = .ok r → r.length = m
  | 0, r, h => by cases h; rfl
  | m + 1, r, h => by
    obtain ⟨a, h1, h2⟩ := bindR_ok h
    obtain ⟨p, h3, h4⟩ := bindR_ok h2
    obtain ⟨b, h5, h6⟩ := bindR_ok h4
    cases h6
    rw [List.length_append, headsL_len h1]
    rfl
theorem headsP_ok {xs : List Int} {hs : List (Int × Int)} (h : headsP xs = .ok hs) : 1 ≤ hs.length ∧ hs.length ≤ 16 ∧ xs[0]? = some (hs.length : Int) ∧ headsL xs hs.length = .ok hs := by
  obtain ⟨n, h1, h2⟩ := bindR_ok h
  obtain ⟨a, b, c⟩ := withinP_ok h1
  have e := headsL_len h2
  have e2 : n = (hs.length : Int) := by rw [e]; omega
  refine ⟨by omega, by omega, by rw [← e2]; exact a, by rw [e]; exact h2⟩
def bodiesP (xs : List Int) (hs : List (Int × Int)) : Nat → Nat → Rz (List Nd × Nat)
  | 0, k => .ok ([], k)
  | i + 1, k => bindR (bodiesP xs hs i k) fun a => bindR (nodeP xs hs (hs.getD i (0, 0)).2 10 a.2) fun b => .ok (a.1 ++ [b.1], b.2)
theorem bodiesP_pre {xs : List Int} {hs : List (Int × Int)} {k i : Nat} : ∀ {m : Nat} {r : List Nd × Nat}, bodiesP xs hs m k = .ok r → i ≤ m → ∃ r', bodiesP xs hs i k = .ok r'
  | 0, r, h, hi => by
    cases Nat.le_zero.mp hi
    exact ⟨r, h⟩
  | m + 1, r, h, hi => by
    by_cases e : i = m + 1
    · subst e; exact ⟨r, h⟩
    · obtain ⟨a, h1, _⟩ := bindR_ok h
      exact bodiesP_pre h1 (by omega)
theorem bodiesP_step {xs : List Int} {hs : List (Int × Int)} {k i : Nat} {r r' : List Nd × Nat} (h : bodiesP xs hs (i + 1) k = .ok r) (h' : bodiesP xs hs i k = .ok r') : ∃ b, nodeP xs hs (hs.getD i (0, 0)).2 10 r'.2 = .ok b ∧ r = (r'.1 ++ [b.1], b.2) := by
  obtain ⟨a, h1, h2⟩ := bindR_ok h
  rw [h'] at h1
  cases h1
  obtain ⟨b, h3, h4⟩ := bindR_ok h2
  cases h4
  exact ⟨b, h3, rfl⟩
theorem bodiesP_len {xs : List Int} {hs : List (Int × Int)} {k : Nat} : ∀ {m : Nat} {r : List Nd × Nat}, bodiesP xs hs m k = .ok r → r.1.length = m
  | 0, r, h => by cases h; rfl
  | m + 1, r, h => by
    obtain ⟨a, h1, h2⟩ := bindR_ok h
    obtain ⟨b, h3, h4⟩ := bindR_ok h2
    cases h4
    rw [List.length_append, bodiesP_len h1]
    rfl
/-- the functions of a sheet: heads and bodies -/
def funsP (xs : List Int) : Rz (List (Int × Int) × List Nd) := bindR (headsP xs) fun hs => bindR (bodiesP xs hs hs.length (1 + 2 * hs.length)) fun a => if a.2 < xs.length then .error (a.2, "over") else .ok (hs, a.1)
theorem funsP_ok {xs : List Int} {hs : List (Int × Int)} {bs : List Nd} (h : funsP xs = .ok (hs, bs)) : ∃ k, headsP xs = .ok hs ∧ bodiesP xs hs hs.length (1 + 2 * hs.length) = .ok (bs, k) ∧ ¬ k < xs.length := by
  obtain ⟨a, h1, h2⟩ := bindR_ok h
  obtain ⟨b, h3, h4⟩ := bindR_ok h2
  split at h4
  · cases h4
  · rename_i c
    cases h4
    exact ⟨b.2, h1, h3, c⟩
theorem headsL_all {xs : List Int} : ∀ {m : Nat} {r : List (Int × Int)}, headsL xs m = .ok r → ∀ h ∈ r, 0 ≤ h.1 ∧ h.1 ≤ 4 ∧ h.1 ≤ h.2 ∧ h.2 ≤ 12
  | 0, r, h => by cases h; intro x hx; cases hx
  | m + 1, r, h => by
    obtain ⟨a, h1, h2⟩ := bindR_ok h
    obtain ⟨p, h3, h4⟩ := bindR_ok h2
    obtain ⟨b, h5, h6⟩ := bindR_ok h4
    cases h6
    intro x hx
    rcases List.mem_append.mp hx with z | z
    · exact headsL_all h1 x z
    · rw [List.mem_singleton.mp z]
      have a1 := (withinP_ok h3).2
      have a2 := (withinP_ok h5).2
      refine ⟨a1.1, ?_, a2.1, a2.2⟩
      have := a1.2
      split at this <;> omega
theorem ownP_most {xs : List Int} {hs : List (Int × Int)} {bx kind : Int} {k : Nat} {o : List Int × Int × Nat} (hB : ∀ h ∈ hs, 0 ≤ h.1 ∧ h.1 ≤ 12) (eo : ownP xs hs bx kind k = .ok o) : 0 ≤ o.2.1 ∧ o.2.1 ≤ 13 := by
  unfold ownP at eo
  split at eo
  · obtain ⟨v, g1, g2⟩ := bindR_ok eo; cases g2; exact ⟨by show (0 : Int) ≤ 0; omega, by show (0 : Int) ≤ 13; omega⟩
  split at eo
  · obtain ⟨v, g1, g2⟩ := bindR_ok eo; cases g2; exact ⟨by show (0 : Int) ≤ 0; omega, by show (0 : Int) ≤ 13; omega⟩
  split at eo
  · obtain ⟨v, g1, g2⟩ := bindR_ok eo; cases g2; exact ⟨by show (0 : Int) ≤ 1; omega, by show (1 : Int) ≤ 13; omega⟩
  split at eo
  · obtain ⟨v, g1, g2⟩ := bindR_ok eo
    have w := (withinP_ok g1).2
    cases g2; exact ⟨by show (0 : Int) ≤ v; omega, by show v ≤ 13; omega⟩
  split at eo
  · obtain ⟨v, g1, g2⟩ := bindR_ok eo
    have w := (withinP_ok g1).2
    cases g2; exact ⟨by show (0 : Int) ≤ v + 1; omega, by show v + 1 ≤ 13; omega⟩
  split at eo
  · obtain ⟨v, g1, g2⟩ := bindR_ok eo
    have w := (withinP_ok g1).2
    cases g2
    have hv : v.toNat < hs.length := by omega
    have := hB _ (List.getElem_mem hv)
    have e : (hs.getD v.toNat (0, 0)).1 = hs[v.toNat].1 := by rw [List.getD_eq_getElem?_getD, List.getElem?_eq_getElem hv]; rfl
    show 0 ≤ (hs.getD v.toNat (0, 0)).1 ∧ (hs.getD v.toNat (0, 0)).1 ≤ 13
    rw [e]
    omega
  split at eo
  · cases eo; exact ⟨by show (0 : Int) ≤ 2; omega, by show (2 : Int) ≤ 13; omega⟩
  · cases eo
    show 0 ≤ manyP kind ∧ manyP kind ≤ 13
    unfold manyP
    repeat' split
    all_goals omega
/-! ### how places go on -/
theorem ownP_le {xs : List Int} {hs : List (Int × Int)} {bx kind : Int} {k : Nat} {o : List Int × Int × Nat} (h : ownP xs hs bx kind k = .ok o) : o.2.2 = k + o.1.length ∧ o.2.2 ≤ max k xs.length := by
  have due : ∀ {v : Int}, dueP xs k = .ok v → k + 1 ≤ xs.length := fun h => (List.getElem?_eq_some_iff.mp (dueP_ok h)).1
  have wit : ∀ {a b v : Int}, withinP xs k a b = .ok v → k + 1 ≤ xs.length := fun h => (List.getElem?_eq_some_iff.mp (withinP_ok h).1).1
  unfold ownP at h
  repeat' split at h
  all_goals first
    | (obtain ⟨v, h1, h2⟩ := bindR_ok h; cases h2; first | exact ⟨rfl, Nat.le_trans (due h1) (Nat.le_max_right _ _)⟩ | exact ⟨rfl, Nat.le_trans (wit h1) (Nat.le_max_right _ _)⟩)
    | (cases h; exact ⟨rfl, Nat.le_max_left _ _⟩)
theorem partsP_le {xs : List Int} {f : Nat → Rz (Nd × Nat)} (hf : ∀ k r, f k = .ok r → k < r.2 ∧ r.2 ≤ xs.length) {k : Nat} : ∀ {m : Nat} {r : List Nd × Nat}, partsP f m k = .ok r → k ≤ r.2 ∧ (k ≤ xs.length → r.2 ≤ xs.length)
  | 0, r, h => by cases h; exact ⟨Nat.le_refl _, fun z => z⟩
  | m + 1, r, h => by
    obtain ⟨a, h1, h2⟩ := bindR_ok h
    obtain ⟨b, h3, h4⟩ := bindR_ok h2
    cases h4
    have x := partsP_le hf h1
    have y := hf _ _ h3
    exact ⟨by show k ≤ b.2; omega, fun _ => y.2⟩
theorem nodeP_le {xs : List Int} {hs : List (Int × Int)} {bx : Int} : ∀ {f k : Nat} {r : Nd × Nat}, nodeP xs hs bx f k = .ok r → k < r.2 ∧ r.2 ≤ xs.length
  | 0, k, r, h => by unfold nodeP at h; cases h
  | f + 1, k, r, h => by
    obtain ⟨kind, o, p, h1, h2, h3, h4, h5, rfl⟩ := nodeP_ok h
    have x := ownP_le h4
    have y := partsP_le (xs := xs) (fun k r => nodeP_le (f := f) (k := k) (r := r)) h5
    have z := (List.getElem?_eq_some_iff.mp h1).1
    show k < p.2 ∧ p.2 ≤ xs.length
    have := y.2 (by omega)
    omega
theorem bodiesP_le {xs : List Int} {hs : List (Int × Int)} {k : Nat} : ∀ {m : Nat} {r : List Nd × Nat}, bodiesP xs hs m k = .ok r → k ≤ r.2 ∧ (k ≤ xs.length → r.2 ≤ xs.length)
  | 0, r, h => by cases h; exact ⟨Nat.le_refl _, fun z => z⟩
  | m + 1, r, h => by
    obtain ⟨a, h1, h2⟩ := bindR_ok h
    obtain ⟨b, h3, h4⟩ := bindR_ok h2
    cases h4
    have x := bodiesP_le h1
    have y := nodeP_le h3
    exact ⟨by show k ≤ b.2; omega, fun _ => y.2⟩
theorem funsP_len {xs : List Int} {hs : List (Int × Int)} {bs : List Nd} {k : Nat} (h1 : headsP xs = .ok hs) (h2 : bodiesP xs hs hs.length (1 + 2 * hs.length) = .ok (bs, k)) : k ≤ xs.length := by
  obtain ⟨n1, n2, e0, eL⟩ := headsP_ok h1
  obtain ⟨i, hi⟩ : ∃ i, hs.length = i + 1 := ⟨hs.length - 1, by omega⟩
  rw [hi] at h2
  obtain ⟨r', h'⟩ := bodiesP_pre h2 (i := i) (by omega)
  obtain ⟨b, h3, e⟩ := bodiesP_step h2 h'
  cases e
  exact (nodeP_le h3).2
/-- how deep a node is -/
theorem nodeP_dep {xs : List Int} {hs : List (Int × Int)} {bx : Int} : ∀ {f k : Nat} {r : Nd × Nat}, nodeP xs hs bx f k = .ok r → 1 ≤ f
  | 0, k, r, h => by unfold nodeP at h; cases h
  | f + 1, _, _, _ => by omega
theorem ownP_cut {xs : List Int} {hs : List (Int × Int)} {bx kind : Int} {k : Nat} {o : List Int × Int × Nat} (h : ownP xs hs bx kind k = .ok o) : (xs.drop k).take o.1.length = o.1 ∧ o.1.length ≤ 1 := by
  have due : ∀ {v : Int}, xs[k]? = some v → (xs.drop k).take 1 = [v] := fun h => by
    have hk := (List.getElem?_eq_some_iff.mp h)
    rw [List.drop_eq_getElem_cons hk.1, hk.2]; rfl
  unfold ownP at h
  repeat' split at h
  all_goals first
    | (obtain ⟨v, h1, h2⟩ := bindR_ok h; cases h2; first | exact ⟨due (dueP_ok h1), Nat.le_refl _⟩ | exact ⟨due (withinP_ok h1).1, Nat.le_refl _⟩)
    | (cases h; exact ⟨rfl, Nat.zero_le _⟩)
/-- where a head stands -/
theorem heads_at {xs : List Int} : ∀ {m : Nat} {r : List (Int × Int)} {i : Nat} {h : Int × Int}, headsL xs m = .ok r → r[i]? = some h → xs[1 + 2 * i]? = some h.1 ∧ xs[2 + 2 * i]? = some h.2
  | 0, r, _, _, e, hi => by cases e; simp at hi
  | m + 1, r, i, h, e, hi => by
    obtain ⟨a, h1⟩ := headsL_pre e (i := m) (by omega)
    obtain ⟨p, b, h3, h4, rfl⟩ := headsL_step e h1
    have len := headsL_len h1
    by_cases c : i < m
    · rw [List.getElem?_append_left (by omega)] at hi
      exact heads_at h1 hi
    · rw [List.getElem?_append_right (by omega)] at hi
      have : i - a.length = 0 := by
        have := (List.getElem?_eq_some_iff.mp hi).1
        simp at this
        omega
      rw [this] at hi
      cases hi
      have : i = m := by omega
      subst this
      exact ⟨(withinP_ok h3).1, (withinP_ok h4).1⟩
/-! ### in the heap -/
/-- pairs as they lie -/
def PairsAt (H : Hp) : List (Int × Int) → List V → Prop
  | [], vs => vs = []
  | h :: hs, vs => ∃ t r, vs = .ref t :: r ∧ H t = some (.tup [.int h.1, .int h.2]) ∧ PairsAt H hs r
theorem PairsAt.mono {H H' : Hp} (S : TupS H H') : ∀ {hs : List (Int × Int)} {vs : List V}, PairsAt H hs vs → PairsAt H' hs vs
  | [], _, h => h
  | _ :: _, _, ⟨t, r, e, h1, h2⟩ => ⟨t, r, e, S _ _ h1, PairsAt.mono S h2⟩
theorem PairsAt.len {H : Hp} : ∀ {hs : List (Int × Int)} {vs : List V}, PairsAt H hs vs → vs.length = hs.length
  | [], _, h => by rw [show _ = [] from h]; rfl
  | _ :: _, _, ⟨t, r, e, _, h2⟩ => by rw [e, List.length_cons, List.length_cons, PairsAt.len h2]
theorem PairsAt.get {H : Hp} : ∀ {hs : List (Int × Int)} {vs : List V} {i : Nat} {h : Int × Int}, PairsAt H hs vs → hs[i]? = some h → ∃ t, vs[i]? = some (.ref t) ∧ H t = some (.tup [.int h.1, .int h.2])
  | [], _, _, _, _, e => by simp at e
  | _ :: _, _, 0, _, ⟨t, r, e0, h1, _⟩, e => by cases e; exact ⟨t, by rw [e0]; rfl, h1⟩
  | _ :: hs, _, i + 1, h, ⟨t, r, e0, _, h2⟩, e => by
    obtain ⟨t', a, b⟩ := PairsAt.get (hs := hs) (i := i) h2 (by simpa using e)
    exact ⟨t', by rw [e0]; simpa using a, b⟩
theorem PairsAt.app {H : Hp} : ∀ {hs : List (Int × Int)} {vs : List V} {h : Int × Int} {t : Addr}, PairsAt H hs vs → H t = some (.tup [.int h.1, .int h.2]) → PairsAt H (hs ++ [h]) (vs ++ [.ref t])
  | [], _, h, t, e, ht => by rw [show _ = [] from e]; exact ⟨t, [], rfl, ht, rfl⟩
  | _ :: _, _, h, t, ⟨u, r, e, h1, h2⟩, ht => by rw [e]; exact ⟨u, r ++ [.ref t], rfl, h1, PairsAt.app h2 ht⟩
/-- functions as they lie -/
def FunsAt (H : Hp) : List (Int × Int) → List Nd → List V → Prop
  | [], [], vs => vs = []
  | h :: hs, b :: bs, vs => ∃ t vb r, vs = .ref t :: r ∧ H t = some (.tup [.int h.1, .int h.2, vb]) ∧ NodeAt H b vb ∧ FunsAt H hs bs r
  | _, _, _ => False
theorem FunsAt.mono {H H' : Hp} (S : TupS H H') : ∀ {hs : List (Int × Int)} {bs : List Nd} {vs : List V}, FunsAt H hs bs vs → FunsAt H' hs bs vs
  | [], [], _, h => h
  | _ :: _, _ :: _, _, ⟨t, vb, r, e, h1, h2, h3⟩ => ⟨t, vb, r, e, S _ _ h1, h2.mono S, FunsAt.mono S h3⟩
theorem FunsAt.len {H : Hp} : ∀ {hs : List (Int × Int)} {bs : List Nd} {vs : List V}, FunsAt H hs bs vs → vs.length = hs.length ∧ bs.length = hs.length
  | [], [], _, h => by rw [show _ = [] from h]; exact ⟨rfl, rfl⟩
  | _ :: _, _ :: _, _, ⟨t, vb, r, e, _, _, h3⟩ => by rw [e, List.length_cons, List.length_cons, List.length_cons, (FunsAt.len h3).1, (FunsAt.len h3).2]; exact ⟨rfl, rfl⟩
theorem FunsAt.get {H : Hp} : ∀ {hs : List (Int × Int)} {bs : List Nd} {vs : List V} {i : Nat} {v : V}, FunsAt H hs bs vs → vs[i]? = some v → ∃ t vb h b, v = .ref t ∧ hs[i]? = some h ∧ bs[i]? = some b ∧ H t = some (.tup [.int h.1, .int h.2, vb]) ∧ NodeAt H b vb
  | [], [], _, _, _, h, e => by rw [show _ = [] from h] at e; simp at e
  | h :: _, b :: _, _, 0, _, ⟨t, vb, r, e0, h1, h2, _⟩, e => by rw [e0] at e; cases e; exact ⟨t, vb, h, b, rfl, rfl, rfl, h1, h2⟩
  | _ :: hs, _ :: bs, _, i + 1, _, ⟨t, vb, r, e0, _, _, h3⟩, e => by
    rw [e0] at e
    obtain ⟨t', vb', h', b', a1, a2, a3, a4⟩ := FunsAt.get (hs := hs) (bs := bs) (i := i) h3 (by simpa using e)
    exact ⟨t', vb', h', b', a1, by simpa using a2, by simpa using a3, a4⟩
theorem FunsAt.app {H : Hp} : ∀ {hs : List (Int × Int)} {bs : List Nd} {vs : List V} {h : Int × Int} {b : Nd} {t : Addr} {vb : V}, FunsAt H hs bs vs → H t = some (.tup [.int h.1, .int h.2, vb]) → NodeAt H b vb → FunsAt H (hs ++ [h]) (bs ++ [b]) (vs ++ [.ref t])
  | [], [], _, h, b, t, vb, e, ht, hb => by rw [show _ = [] from e]; exact ⟨t, vb, [], rfl, ht, hb, rfl⟩
  | _ :: _, _ :: _, _, h, b, t, vb, ⟨u, vu, r, e, h1, h2, h3⟩, ht, hb => by rw [e]; exact ⟨u, vu, r ++ [.ref t], rfl, h1, h2, FunsAt.app h3 ht hb⟩

def q_parts_of (Z : Adr) (a : V) (H : Hp) (Q : VK) (E : XK) : Prop := ∃ i : Int, a = .int i ∧ ∀ H', Same H H' → Q (.int (manyP i)) H'

/-! ### programs as texts: what is read of words -/
def WE1 : List Str := ["set", "all", "pick", "loop", "call", "fail", "add", "sub", "mul"]
def WE2 : List Str := ["quo", "rest", "less", "same", "push", "at", "put", "size", "new"]
def WD : List Str := WE1 ++ WE2
theorem WD_len : WD.length = 18 := rfl
/-- a kind by its word -/
def kindO (k : Int) : List Str → Str → Option Int
  | [], _ => none
  | x :: xs, w => if x = w then some k else kindO (k + 1) xs w
def optV : Option Int → V
  | none => .non
  | some v => .int v

def kindW (w : Str) : Option Int := kindO 2 WD w
theorem kindO_some {w : Str} : ∀ {l : List Str} {k i : Int}, kindO k l w = some i → k ≤ i ∧ i < k + l.length ∧ w ∈ l
  | [], k, i, h => by cases h
  | x :: xs, k, i, h => by
    unfold kindO at h
    by_cases c : x = w
    · rw [if_pos c] at h
      cases h
      exact ⟨Int.le_refl _, by rw [List.length_cons]; omega, by rw [c]; exact List.mem_cons_self⟩
    · rw [if_neg c] at h
      obtain ⟨a, b, d⟩ := kindO_some h
      exact ⟨by omega, by rw [List.length_cons]; omega, List.mem_cons_of_mem _ d⟩
theorem kindW_some {w : Str} {i : Int} (h : kindW w = some i) : 2 ≤ i ∧ i ≤ 19 := by
  obtain ⟨a, b, _⟩ := kindO_some h
  have : WD.length = 18 := rfl
  omega
def LET : Str := "abcdefghijklmnopqrstuvwxyz"
def FIG : Str := "0123456789"
def isOf (w sg : Str) (m : Int) : Bool := decide (1 ≤ (w.length : Int)) && (decide ((w.length : Int) ≤ m) && w.cps.toList.all fun c => decide (c ∈ sg.cps.toList))
def isName (w : Str) : Bool := !(decide (w ∈ (["fun", "with", "is"] : List Str)) || (kindW w).isSome) && isOf w LET 8
def figsW (w : Str) : Str := if cutS w none (some 1) = "-" then cutS w (some 1) none else w
def isNumM (w : Str) (m : Int) : Bool := isOf (figsW w) FIG m && (!decide ((figsW w).cps.toList.head? = some 48) || decide (w = "0"))
def isNum (w : Str) : Bool := isNumM w 60
def numT (w : Str) : Int := (PySem.intText? w).getD 0
def isNodeW (bx : List Str) (w : Str) : Bool := decide (w ∈ bx) || (isNum w || (kindW w).isSome)
/-- what is read, or the number of the first word that can't stand -/
abbrev Rt (α : Type) := Except Nat α
def bindT {α β : Type} (x : Rt α) (f : α → Rt β) : Rt β := match x with
  | .ok a => f a
  | .error e => .error e
theorem bindT_of {α β : Type} {x : Rt α} {f : α → Rt β} {a : α} (h : x = .ok a) : bindT x f = f a := by rw [h]; rfl
theorem bindT_er {α β : Type} {x : Rt α} {f : α → Rt β} {e : Nat} (h : x = .error e) : bindT x f = .error e := by rw [h]; rfl
theorem bindT_ok {α β : Type} {x : Rt α} {f : α → Rt β} {b : β} (h : bindT x f = .ok b) : ∃ a, x = .ok a ∧ f a = .ok b := by
  cases x with
  | ok a => exact ⟨a, rfl, h⟩
  | error e => cases h
def dueW (fit : Str → Bool) (ws : List Str) (k : Nat) : Rt (Str × Nat) := match ws[k]? with
  | none => .error k
  | some w => if fit w = true then .ok (w, k + 1) else .error k
theorem dueW_ok {fit : Str → Bool} {ws : List Str} {k : Nat} {r : Str × Nat} (h : dueW fit ws k = .ok r) : ws[k]? = some r.1 ∧ fit r.1 = true ∧ r.2 = k + 1 ∧ k < ws.length := by
  unfold dueW at h
  cases e : ws[k]? with
  | none => rw [e] at h; cases h
  | some w =>
    rw [e] at h
    dsimp only at h
    by_cases c : fit w = true
    · rw [if_pos c] at h
      cases h
      exact ⟨rfl, c, rfl, (List.getElem?_eq_some_iff.mp e).1⟩
    · rw [if_neg c] at h; cases h
/-- the words of params are these many, from at on -/
def endW (ws : List Str) : Nat → Nat → Nat
  | 0, k => k
  | f + 1, k => if k < ws.length ∧ ws[k]? ≠ some ("with" : Str) then endW ws f (k + 1) else k
abbrev Hds := List (Str × (Int × Int))
def hdOf (hd : Hds) (w : Str) : Option (Int × Int) := hd.lookup w
def headsT (ws : List Str) : Nat → Hds × Int
  | 0 => ([], 0)
  | i + 1 => if ws[i]? = some ("fun" : Str) then
      ((if (hdOf (headsT ws i).1 (ws.getD (i + 1) ("" : Str))).isSome = true then (headsT ws i).1 else (headsT ws i).1 ++ [(ws.getD (i + 1) "", ((headsT ws i).2, (endW ws ws.length (i + 2) : Int) - i - 2))]), (headsT ws i).2 + 1)
    else headsT ws i
def headsW (ws : List Str) : Hds := (headsT ws (ws.length - 1)).1
def boxW (w : Str) (bx : List Str) : Int := (bx.findIdx (fun x => decide (x = w)) : Nat)
def ownW (ws : List Str) (hd : Hds) (bx : List Str) (kind : Int) (k : Nat) : Rt (List Int × Int × Nat) :=
  if kind = 2 then bindT (dueW (fun w => decide (w ∈ bx)) ws k) fun r => .ok ([boxW r.1 bx], 1, r.2)
  else if kind = 3 then bindT (dueW (fun w => isNum w && (decide (1 ≤ numT w) && decide (numT w ≤ 12))) ws k) fun r => .ok ([numT r.1], numT r.1, r.2)
  else if kind = 4 then bindT (dueW (fun w => isNum w && (decide (2 ≤ numT w) && decide (numT w ≤ 12))) ws k) fun r => .ok ([numT r.1], numT r.1 + 1, r.2)
  else if kind = 6 then bindT (dueW (fun w => isName w && (hdOf hd w).isSome) ws k) fun r => .ok ([((hdOf hd r.1).getD (0, 0)).1], ((hdOf hd r.1).getD (0, 0)).2, r.2)
  else if kind = 5 then .ok ([], 2, k) else .ok ([], manyP kind, k)
def partsW (f : Nat → Rt (List Int × Nat)) : Nat → Nat → Rt (List Int × Nat)
  | 0, k => .ok ([], k)
  | m + 1, k => bindT (partsW f m k) fun r => bindT (f r.2) fun b => .ok (r.1 ++ b.1, b.2)
def nodeW (ws : List Str) (hd : Hds) (bx : List Str) : Nat → Nat → Rt (List Int × Nat)
  | 0, k => .error k
  | f + 1, k => bindT (dueW (isNodeW bx) ws k) fun r =>
    if r.1 ∈ bx then .ok ([1, boxW r.1 bx], r.2)
    else if isNum r.1 = true then .ok ([0, numT r.1], r.2)
    else match kindW r.1 with
      | none => .ok ([], r.2)
      | some kind => bindT (ownW ws hd bx kind r.2) fun o => bindT (partsW (nodeW ws hd bx f) o.2.1.toNat o.2.2) fun p => .ok (kind :: o.1 ++ p.1, p.2)
def boxesW (ws : List Str) (en : Str) (m : Int) : Nat → List Str → Nat → Rt (List Str × Nat)
  | 0, _, k => .error k
  | f + 1, bx, k => if ws[k]? = some en then .ok (bx, k + 1) else if (bx.length : Int) = m then .error k
    else bindT (dueW (fun w => isName w && !decide (w ∈ bx)) ws k) fun r => boxesW ws en m f (bx ++ [r.1]) r.2
abbrev Prg := List (Str × List Str) × List Int × List Int × Nat
def onceW (ws : List Str) (hd : Hds) (p : Prg) : Rt Prg := if p.1.length = 16 then .error p.2.2.2 else
  bindT (dueW (fun w => decide (w = "fun")) ws p.2.2.2) fun r1 => bindT (dueW (fun w => isName w && !decide (w ∈ p.1.map (·.1))) ws r1.2) fun r2 =>
  bindT (boxesW ws "with" (if p.1 = [] then 0 else 4) (ws.length + 1) [] r2.2) fun r3 => bindT (boxesW ws "is" 12 (ws.length + 1) r3.1 r3.2) fun r4 =>
  bindT (nodeW ws hd r4.1 10 r4.2) fun r5 => .ok (p.1 ++ [(r2.1, r4.1)], p.2.1 ++ [(r3.1.length : Int), (r4.1.length : Int)], p.2.2.1 ++ r5.1, r5.2)
def loopW (ws : List Str) (hd : Hds) : Nat → Prg → Rt Prg
  | 0, p => .error p.2.2.2
  | f + 1, p => if p.1 = [] ∨ p.2.2.2 < ws.length then bindT (onceW ws hd p) (loopW ws hd f) else .ok p
def readW (ws : List Str) : Rt (List (Str × List Str) × List Int) := bindT (loopW ws (headsW ws) 18 ([], [], [], 0)) fun p => .ok (p.1, (p.1.length : Int) :: p.2.1 ++ p.2.2.1)
/-- the words of a text -/
def wordsT (t : Str) : List Str := (Txt.split (Txt.replace t "\n" " ") " ").filter fun w => !decide (w = "")
theorem cutS_le (w : Str) (lo hi : Option Int) : (cutS w lo hi).length ≤ w.length := cutS_length w lo hi
theorem isOf_at {w sg : Str} {m : Int} (h : isOf w sg m = true) : ∃ cc, atI w.cps.toList 0 = some cc ∧ w.cps.toList.head? = some cc := by
  unfold isOf at h
  have h1 := of_decide_eq_true (Bool.and_eq_true_iff.mp h).1
  have l : w.length = w.cps.toList.length := by show w.cps.size = _; rw [Array.length_toList]
  have hp : 0 < w.cps.toList.length := by omega
  refine ⟨w.cps.toList[0], ?_, by rw [List.head?_eq_getElem?]; exact List.getElem?_eq_getElem hp⟩
  show atI w.cps.toList ((0 : Nat) : Int) = _
  exact atI_nat (List.getElem?_eq_getElem hp)
/-- what is read goes on, and isn't long -/
def Goes (n k : Nat) (r : List Int × Nat) : Prop := k ≤ r.2 ∧ r.1.length ≤ 2 * (r.2 - k) ∧ (k ≤ n → r.2 ≤ n)
theorem ownW_goes {ws : List Str} {hd : Hds} {bx : List Str} {kind : Int} {k : Nat} {o : List Int × Int × Nat} (h : ownW ws hd bx kind k = .ok o) : Goes ws.length k (o.1, o.2.2) := by
  have one : ∀ {fit : Str → Bool} {r : Str × Nat} {z : Int}, dueW fit ws k = .ok r → Goes ws.length k ([z], r.2) := fun {fit r z} e => by
    obtain ⟨_, _, e3, e4⟩ := dueW_ok e
    exact ⟨by show k ≤ r.2; omega, by show 1 ≤ 2 * (r.2 - k); omega, fun _ => by show r.2 ≤ ws.length; omega⟩
  have nil : Goes ws.length k (([] : List Int), k) := ⟨Nat.le_refl _, Nat.zero_le _, fun z => z⟩
  unfold ownW at h
  by_cases c0 : kind = 2
  · rw [if_pos c0] at h; obtain ⟨a, e, f⟩ := bindT_ok h; cases f; exact one e
  rw [if_neg c0] at h
  by_cases c1 : kind = 3
  · rw [if_pos c1] at h; obtain ⟨a, e, f⟩ := bindT_ok h; cases f; exact one e
  rw [if_neg c1] at h
  by_cases c2 : kind = 4
  · rw [if_pos c2] at h; obtain ⟨a, e, f⟩ := bindT_ok h; cases f; exact one e
  rw [if_neg c2] at h
  by_cases c3 : kind = 6
  · rw [if_pos c3] at h; obtain ⟨a, e, f⟩ := bindT_ok h; cases f; exact one e
  rw [if_neg c3] at h
  by_cases c4 : kind = 5
  · rw [if_pos c4] at h; cases h; exact nil
  · rw [if_neg c4] at h; cases h; exact nil
theorem ownW_many {ws : List Str} {hd : Hds} {bx : List Str} {kind : Int} {k : Nat} {o : List Int × Int × Nat} (hh : ∀ h ∈ hd, 0 ≤ h.2.2 ∧ h.2.2 ≤ 1000000) (h : ownW ws hd bx kind k = .ok o) : 0 ≤ o.2.1 ∧ o.2.1 ≤ 1000000 := by
  unfold ownW at h
  by_cases c0 : kind = 2
  · rw [if_pos c0] at h; obtain ⟨a, e, f⟩ := bindT_ok h; cases f; exact ⟨by show (0 : Int) ≤ 1; decide, by show (1 : Int) ≤ 1000000; decide⟩
  rw [if_neg c0] at h
  by_cases c1 : kind = 3
  · rw [if_pos c1] at h
    obtain ⟨a, e, f⟩ := bindT_ok h
    obtain ⟨_, e2, _, _⟩ := dueW_ok e
    simp only [Bool.and_eq_true, decide_eq_true_eq] at e2
    cases f
    exact ⟨by show 0 ≤ numT a.1; omega, by show numT a.1 ≤ 1000000; omega⟩
  rw [if_neg c1] at h
  by_cases c2 : kind = 4
  · rw [if_pos c2] at h
    obtain ⟨a, e, f⟩ := bindT_ok h
    obtain ⟨_, e2, _, _⟩ := dueW_ok e
    simp only [Bool.and_eq_true, decide_eq_true_eq] at e2
    cases f
    exact ⟨by show 0 ≤ numT a.1 + 1; omega, by show numT a.1 + 1 ≤ 1000000; omega⟩
  rw [if_neg c2] at h
  by_cases c3 : kind = 6
  · rw [if_pos c3] at h
    obtain ⟨a, e, f⟩ := bindT_ok h
    cases f
    show 0 ≤ ((hdOf hd a.1).getD (0, 0)).2 ∧ ((hdOf hd a.1).getD (0, 0)).2 ≤ 1000000
    cases x : hdOf hd a.1 with
    | none => exact ⟨by decide, by decide⟩
    | some m => exact hh (a.1, m) (PySem.mem_of_lookup x)
  rw [if_neg c3] at h
  by_cases c4 : kind = 5
  · rw [if_pos c4] at h; cases h; exact ⟨by show (0 : Int) ≤ 2; decide, by show (2 : Int) ≤ 1000000; decide⟩
  · rw [if_neg c4] at h
    cases h
    show 0 ≤ manyP kind ∧ manyP kind ≤ 1000000
    unfold manyP
    repeat' split
    all_goals omega
theorem partsW_goes {f : Nat → Rt (List Int × Nat)} {n : Nat} (hf : ∀ k b, f k = .ok b → Goes n k b) : ∀ {m k : Nat} {r : List Int × Nat}, partsW f m k = .ok r → Goes n k r
  | 0, k, r, h => by cases h; exact ⟨Nat.le_refl _, Nat.zero_le _, fun z => z⟩
  | m + 1, k, r, h => by
    obtain ⟨a, e, h⟩ := bindT_ok h
    obtain ⟨b, e2, h⟩ := bindT_ok h
    cases h
    obtain ⟨a1, a2, a3⟩ := partsW_goes hf e
    obtain ⟨b1, b2, b3⟩ := hf _ _ e2
    exact ⟨Nat.le_trans a1 b1, by show (a.1 ++ b.1).length ≤ 2 * (b.2 - k); rw [List.length_append]; omega, fun z => b3 (a3 z)⟩
theorem partsW_err {f : Nat → Rt (List Int × Nat)} {k i : Nat} {e : Nat} (h : partsW f i k = .error e) : ∀ {m : Nat}, i ≤ m → partsW f m k = .error e
  | 0, hm => by cases Nat.le_zero.mp hm; exact h
  | m + 1, hm => by
    by_cases c : i = m + 1
    · subst c; exact h
    · exact bindT_er (partsW_err h (by omega))
theorem nodeW_goes {ws : List Str} {hd : Hds} {bx : List Str} : ∀ {f k : Nat} {r : List Int × Nat}, nodeW ws hd bx f k = .ok r → Goes ws.length k r ∧ k < r.2
  | 0, k, r, h => by cases h
  | f + 1, k, r, h => by
    obtain ⟨a, e, h⟩ := bindT_ok h
    obtain ⟨_, _, e3, e4⟩ := dueW_ok e
    by_cases c : a.1 ∈ bx
    · rw [if_pos c] at h
      cases h
      exact ⟨⟨by show k ≤ a.2; omega, by show 2 ≤ 2 * (a.2 - k); omega, fun _ => by show a.2 ≤ ws.length; omega⟩, by show k < a.2; omega⟩
    rw [if_neg c] at h
    by_cases d : isNum a.1 = true
    · rw [if_pos d] at h
      cases h
      exact ⟨⟨by show k ≤ a.2; omega, by show 2 ≤ 2 * (a.2 - k); omega, fun _ => by show a.2 ≤ ws.length; omega⟩, by show k < a.2; omega⟩
    rw [if_neg d] at h
    cases x : kindW a.1 with
    | none =>
      rw [x] at h
      cases h
      exact ⟨⟨by show k ≤ a.2; omega, Nat.zero_le _, fun _ => by show a.2 ≤ ws.length; omega⟩, by show k < a.2; omega⟩
    | some kind =>
      rw [x] at h
      obtain ⟨o, eo, h⟩ := bindT_ok h
      obtain ⟨q, eq, h⟩ := bindT_ok h
      cases h
      obtain ⟨o1, o2, o3⟩ := ownW_goes eo
      obtain ⟨q1, q2, q3⟩ := partsW_goes (fun k b z => (nodeW_goes z).1) eq
      dsimp only at o1 o2 o3
      refine ⟨⟨by show k ≤ q.2; omega, ?_, fun _ => q3 (o3 (by omega))⟩, by show k < q.2; omega⟩
      show (kind :: o.1 ++ q.1).length ≤ 2 * (q.2 - k)
      rw [List.length_append, List.length_cons]
      omega
theorem FIG_mem {c : Nat} (h : c ∈ FIG.cps.toList) : 48 ≤ c ∧ c ≤ 57 := by
  rw [show FIG.cps.toList = [48, 49, 50, 51, 52, 53, 54, 55, 56, 57] by decide +kernel] at h
  simp only [List.mem_cons, List.not_mem_nil, or_false] at h
  omega
theorem isOf_parts {w sg : Str} {m : Int} (h : isOf w sg m = true) : w.cps.toList ≠ [] ∧ (w.length : Int) ≤ m ∧ ∀ c ∈ w.cps.toList, c ∈ sg.cps.toList := by
  unfold isOf at h
  simp only [Bool.and_eq_true, decide_eq_true_eq, List.all_eq_true] at h
  have := len_ls w
  exact ⟨fun z => by rw [z] at this; have := h.1; simp at *; omega, h.2.1, h.2.2⟩
theorem cut1 (w : Str) : cutS w none (some 1) = ofL (w.cps.toList.take 1) ∧ cutS w (some 1) none = ofL (w.cps.toList.drop 1) := by
  have e : ((1 : Int)) = ((1 : Nat) : Int) := rfl
  have l := len_ls w
  unfold cutS
  rw [HT.sIx_none, HT.sIx_none, e, HT.sIx_nat, List.drop_zero, Nat.sub_zero]
  refine ⟨?_, ?_⟩
  · rcases Nat.lt_or_ge w.length 1 with c | c
    · rw [Nat.min_eq_right (by omega), List.take_of_length_le (by omega), List.take_of_length_le (by omega)]; rfl
    · rw [Nat.min_eq_left c]; rfl
  · rw [HT.sIx_nat]
    rcases Nat.lt_or_ge w.length 1 with c | c
    · rw [Nat.min_eq_right (by omega), Nat.sub_self, List.take_zero, List.drop_eq_nil_of_le (by omega)]; rfl
    · rw [Nat.min_eq_left c, List.take_of_length_le (by rw [List.length_drop]; omega)]; rfl
theorem figsW_is (w : Str) : (w.cps.toList.head? = some 45 → figsW w = ofL (w.cps.toList.drop 1)) ∧ (w.cps.toList.head? ≠ some 45 → figsW w = w) := by
  unfold figsW
  rw [(cut1 w).1, (cut1 w).2, show (("-" : Str)) = ofL [45] by decide +kernel]
  cases e : w.cps.toList with
  | nil => exact ⟨fun h => (by cases h), fun _ => by rw [if_neg (by decide)]⟩
  | cons a l =>
    refine ⟨fun h => ?_, fun h => ?_⟩
    · cases h; rw [if_pos (by rfl)]
    · rw [if_neg]
      intro z
      have := congrArg (fun s : Str => s.cps.toList) z
      cases this
      exact h rfl
theorem isNumM_int {w : Str} {m : Int} (h : isNumM w m = true) (hm : m ≤ 600) : PySem.intText? w = some (numT w) ∧ w.length ≤ 640 := by
  unfold isNumM at h
  have h1 := (Bool.and_eq_true_iff.mp h).1
  obtain ⟨a, b, c⟩ := isOf_parts h1
  have l := len_ls w
  have key : ∃ i, PySem.intText? w = some i ∧ w.length ≤ 640 := by
    by_cases d : w.cps.toList.head? = some 45
    · rw [(figsW_is w).1 d] at a b c
      rw [ls_ofL] at a c
      rw [len_ls, ls_ofL] at b
      cases e : w.cps.toList with
      | nil => rw [e] at d; cases d
      | cons x r =>
        rw [e] at a b c d l
        cases d
        have l2 : w.length ≤ 640 := by rw [List.length_cons] at l; simp only [List.drop_one, List.tail_cons] at b; omega
        exact ⟨_, PySem.intText_neg e (fun y hy => FIG_mem (c y hy)) a (by omega), l2⟩
    · rw [(figsW_is w).2 d] at a b c
      exact ⟨_, PySem.intText_digits (fun y hy => FIG_mem (c y hy)) a (by omega), by omega⟩
  obtain ⟨i, h1, h2⟩ := key
  exact ⟨by rw [h1]; unfold numT; rw [h1]; rfl, h2⟩
theorem num_int {w : Str} (h : isNum w = true) : PySem.intText? w = some (numT w) ∧ w.length ≤ 640 := isNumM_int h (by decide)
theorem wordsT_eq (t : Str) : wordsT t = (ws0 t.cps.toList).map ofL := words_eq t
/-- the words of a text of moderate length -/
theorem wordsT_ok {t : Str} (h : t.length ≤ 500000) (hs : PyData.strOk t = true) : (wordsT t).length ≤ 1000000 ∧ ∀ w ∈ wordsT t, w.length ≤ 10000000 ∧ PyData.strOk w = true := by
  rw [wordsT_eq]
  have l := len_ls t
  refine ⟨by rw [List.length_map]; have := ws0_len t.cps.toList; omega, fun w hw => ?_⟩
  obtain ⟨p, hp, rfl⟩ := List.mem_map.mp hw
  obtain ⟨h1, h2, h3⟩ := ws0_mem hp
  refine ⟨by rw [len_ls, ls_ofL]; omega, ?_⟩
  unfold PyData.strOk at hs ⊢
  rw [Array.all_eq_true_iff_forall_mem] at hs ⊢
  intro x hx
  exact hs x (Array.mem_toList_iff.mp (h3 x (by simpa [ofL] using hx)).1)
theorem endW_le (ws : List Str) : ∀ (f k : Nat), k ≤ ws.length + 1 → endW ws f k ≤ ws.length + 1
  | 0, k, h => h
  | f + 1, k, h => by
    unfold endW
    by_cases c : k < ws.length ∧ ws[k]? ≠ some ("with" : Str)
    · rw [if_pos c]; exact endW_le ws f (k + 1) (by have := c.1; omega)
    · rw [if_neg c]; exact h
theorem headsT_many (ws : List Str) (hn : ws.length ≤ 1000000) : ∀ i : Nat, i + 1 ≤ ws.length → ∀ h ∈ (headsT ws i).1, 0 ≤ h.2.2 ∧ h.2.2 ≤ 1000000
  | 0, _, h, hh => by cases hh
  | i + 1, hi, h, hh => by
    have ih := headsT_many ws hn i (by omega)
    unfold headsT at hh
    by_cases d : ws[i]? = some ("fun" : Str)
    · rw [if_pos d] at hh
      dsimp only at hh
      by_cases e : (hdOf (headsT ws i).1 (ws.getD (i + 1) ("" : Str))).isSome = true
      · rw [if_pos e] at hh; exact ih h hh
      · rw [if_neg e] at hh
        rcases List.mem_append.mp hh with z | z
        · exact ih h z
        · rw [List.mem_singleton.mp z]
          have g1 := endW_ge0 ws ws.length (i + 2)
          have g2 := endW_le ws ws.length (i + 2) (by omega)
          exact ⟨by show 0 ≤ (endW ws ws.length (i + 2) : Int) - i - 2; omega, by show (endW ws ws.length (i + 2) : Int) - i - 2 ≤ 1000000; omega⟩
    · rw [if_neg d] at hh; exact ih h hh
where
  endW_ge0 (ws : List Str) : ∀ (f k : Nat), k ≤ endW ws f k
    | 0, k => Nat.le_refl _
    | f + 1, k => by
      unfold endW
      by_cases c : k < ws.length ∧ ws[k]? ≠ some ("with" : Str)
      · rw [if_pos c]; exact Nat.le_trans (Nat.le_succ k) (endW_ge0 ws f (k + 1))
      · rw [if_neg c]; exact Nat.le_refl _
theorem headsW_many {ws : List Str} (hn : ws.length ≤ 1000000) : ∀ h ∈ headsW ws, 0 ≤ h.2.2 ∧ h.2.2 ≤ 1000000 := by
  intro h hh
  unfold headsW at hh
  by_cases c : ws.length = 0
  · rw [c] at hh; cases hh
  · exact headsT_many ws hn _ (by omega) h hh
theorem split_len (t s : Str) : (Txt.split t s).length ≤ t.length + 2 := by
  unfold Txt.split
  split
  · show 1 ≤ _; omega
  · split
    · show 1 ≤ _; omega
    · rw [PySem.length_partsBetween]
      have := PySem.StrLaws.occ_length_le_len t s 0 t.length (t.length + 1)
      omega
theorem flat_strs (ws : List Str) : (ws.map V.str).all flatV = true := List.all_eq_true.mpr fun v hv => by
  obtain ⟨w, _, rfl⟩ := List.mem_map.mp hv
  rfl
theorem boxW_at {w : Str} {bx : List Str} (h : w ∈ bx) : ∃ j : Nat, boxW w bx = (j : Int) ∧ bx[j]? = some w ∧ ∀ (m : Nat) (z : Str), m < j → bx[m]? = some z → z ≠ w := by
  have hx : ∃ x ∈ bx, decide (x = w) = true := ⟨w, h, by simp⟩
  have hl : bx.findIdx (fun x => decide (x = w)) < bx.length := List.findIdx_lt_length_of_exists hx
  refine ⟨bx.findIdx (fun x => decide (x = w)), rfl, ?_, fun m z hm hz e => ?_⟩
  · rw [List.getElem?_eq_getElem hl]
    have := List.findIdx_getElem (xs := bx) (p := fun x => decide (x = w)) (w := hl)
    rw [of_decide_eq_true this]
  · have hm' := Nat.lt_trans hm hl
    rw [List.getElem?_eq_getElem hm'] at hz
    have := List.not_of_lt_findIdx hm
    rw [Option.some.inj hz, e] at this
    simp at this
theorem eqv_one (a b : Str) : PyData.eqv (.list [.str a]) (.list [.str b]) = decide (a = b) := by
  simp only [PyData.eqv, PyData.eqvAll, Bool.and_true]
  by_cases c : a = b
  · subst c; simp
  · rw [decide_eq_false c]; simpa using c
theorem eqV_str (a b : Str) : eqV (.str a) (.str b) = decide (a = b) := by
  show (a == b) = _
  by_cases c : a = b
  · subst c; simp
  · rw [decide_eq_false c]; simpa using c
theorem s_indexS {K : PySem.W.Frag} {H : Hp} {Q : VK} {p : Addr} {w : Str} {bx : List Str} (h1 : SqL K H p (bx.map V.str)) (h : w ∈ bx) (q : Q (.int (boxW w bx)) H) : rIndex K (.ref p) [.str w] H Q := by
  obtain ⟨j, e, e1, e2⟩ := boxW_at h
  rw [e] at q
  refine s_index (j := j) (z := .str w) h1 rfl (flat_strs bx) (by rw [List.getElem?_map, e1]; rfl) (by rw [eqV_str]; simp) (fun m z hm hz => ?_) q
  rw [List.getElem?_map] at hz
  obtain ⟨y, hy, rfl⟩ := Option.map_eq_some_iff.mp hz
  rw [eqV_str]
  exact decide_eq_false (e2 m y hm hy)
theorem inV_strs (w : Str) (ws : List Str) : inV (.str w) (ws.map V.str) = decide (w ∈ ws) := by
  unfold inV
  induction ws with
  | nil => simp
  | cons a ws ih =>
    rw [List.map_cons, List.any_cons, ih]
    have : eqV (.str a) (.str w) = decide (w = a) := by
      show (a == w) = _
      by_cases c : w = a
      · subst c; simp
      · rw [decide_eq_false c]; simpa using fun z => c z.symm
    rw [this]
    by_cases c : w = a <;> simp [c]
/-! ### what stands in the heap -/
def XtAt (H : Hp) (d : Addr) (k : Nat) : Prop := H d = some (.xd [("at", .int (k : Int))])
def ErrT (Z : Adr) (p : Addr) (H : Hp) (k : Nat) (E : XK) : Prop := ∀ d H', But p H H' → XtAt H' d k → E (.ref Z.c_NoText) (some d) H'
theorem ErrT.trans {Z : Adr} {p : Addr} {H H' : Hp} {k : Nat} {E : XK} (h : ErrT Z p H k E) (B : But p H H') : ErrT Z p H' k E := fun d H2 B2 x => h d H2 (B.trans B2) x
def HdsAt (H : Hp) : Hds → List (Key × V) → Prop
  | [], kvs => kvs = []
  | (w, m) :: hs, kvs => ∃ t r, kvs = (kS w, .ref t) :: r ∧ H t = some (.tup [.int m.1, .int m.2]) ∧ HdsAt H hs r
theorem HdsAt.mono {H H' : Hp} (T : TupS H H') : ∀ {hd : Hds} {kvs : List (Key × V)}, HdsAt H hd kvs → HdsAt H' hd kvs
  | [], _, h => h
  | (_, _) :: _, _, ⟨t, r, e, h1, h2⟩ => ⟨t, r, e, T _ _ h1, HdsAt.mono T h2⟩
theorem small1000000 {n : Nat} (h : n < 1000001) : n < sizeLine := Nat.lt_trans h (by decide)
theorem HdsAt.val {H : Hp} {w : Str} : ∀ {hd : Hds} {kvs : List (Key × V)}, HdsAt H hd kvs → (hdOf hd w = none ∧ valV kvs (kS w) = none) ∨ ∃ m t, hdOf hd w = some m ∧ valV kvs (kS w) = some (.ref t) ∧ H t = some (.tup [.int m.1, .int m.2])
  | [], kvs, h => by
    have h : kvs = [] := h
    subst h
    exact .inl ⟨rfl, rfl⟩
  | (x, m) :: hs, kvs, h => by
    obtain ⟨t, r, rfl, h1, h2⟩ := h
    by_cases c : w = x
    · subst c
      exact .inr ⟨m, t, by unfold hdOf; rw [List.lookup_cons]; simp, valV_pos rfl, h1⟩
    · have e : valV ((kS x, V.ref t) :: r) (kS w) = valV r (kS w) := by
        unfold valV
        rw [List.find?_cons_of_neg]
        simpa using fun z => c z.symm
      have e2 : hdOf ((x, m) :: hs) w = hdOf hs w := by
        unfold hdOf
        rw [List.lookup_cons]
        rw [show (w == x) = false by simpa using c]
      rw [e, e2]
      exact h2.val
theorem HdsAt.app {H : Hp} {w : Str} {m : Int × Int} {t : Addr} (ht : H t = some (.tup [.int m.1, .int m.2])) : ∀ {hd : Hds} {kvs : List (Key × V)}, HdsAt H hd kvs → HdsAt H (hd ++ [(w, m)]) (kvs ++ [(kS w, .ref t)])
  | [], kvs, h => by
    have h : kvs = [] := h
    subst h
    exact ⟨t, [], rfl, ht, rfl⟩
  | (x, n) :: hs, kvs, h => by
    obtain ⟨u, r, rfl, h1, h2⟩ := h
    exact ⟨u, r ++ [(kS w, .ref t)], rfl, h1, h2.app ht⟩
theorem HdsAt.len {H : Hp} : ∀ {hd : Hds} {kvs : List (Key × V)}, HdsAt H hd kvs → kvs.length = hd.length
  | [], kvs, h => by
    have h : kvs = [] := h
    subst h
    rfl
  | (x, n) :: hs, kvs, h => by
    obtain ⟨u, r, rfl, h1, h2⟩ := h
    rw [List.length_cons, List.length_cons, h2.len]
theorem headsT_len (ws : List Str) : ∀ i : Nat, (headsT ws i).1.length ≤ i ∧ 0 ≤ (headsT ws i).2 ∧ (headsT ws i).2 ≤ i
  | 0 => ⟨Nat.le_refl _, Int.le_refl _, Int.le_refl _⟩
  | i + 1 => by
    obtain ⟨a, b, c⟩ := headsT_len ws i
    unfold headsT
    by_cases d : ws[i]? = some ("fun" : Str)
    · rw [if_pos d]
      refine ⟨?_, by show 0 ≤ (headsT ws i).2 + 1; omega, by show (headsT ws i).2 + 1 ≤ ((i + 1 : Nat) : Int); omega⟩
      dsimp only
      by_cases e : (hdOf (headsT ws i).1 (ws.getD (i + 1) ("" : Str))).isSome = true
      · rw [if_pos e]; omega
      · rw [if_neg e, List.length_append, List.length_singleton]; omega
    · rw [if_neg d]; exact ⟨by omega, b, by omega⟩
theorem endW_ge (ws : List Str) : ∀ (f k : Nat), k ≤ endW ws f k
  | 0, k => Nat.le_refl _
  | f + 1, k => by
    unfold endW
    by_cases c : k < ws.length ∧ ws[k]? ≠ some ("with" : Str)
    · rw [if_pos c]; exact Nat.le_trans (Nat.le_succ k) (endW_ge ws f (k + 1))
    · rw [if_neg c]; exact Nat.le_refl _
theorem endW_stop (ws : List Str) {k : Nat} (c : ¬ (k < ws.length ∧ ws[k]? ≠ some ("with" : Str))) : ∀ f : Nat, endW ws f k = k
  | 0 => rfl
  | f + 1 => by unfold endW; rw [if_neg c]
theorem endW_go (ws : List Str) {k : Nat} (c : k < ws.length ∧ ws[k]? ≠ some ("with" : Str)) : ∀ f g : Nat, ws.length ≤ k + f → ws.length ≤ k + 1 + g → endW ws f k = endW ws g (k + 1)
  | 0, g, h1, h2 => by have := c.1; omega
  | f + 1, g, h1, h2 => by
    have e : endW ws (f + 1) k = endW ws f (k + 1) := by
      show (if k < ws.length ∧ ws[k]? ≠ some ("with" : Str) then endW ws f (k + 1) else k) = _
      rw [if_pos c]
    rw [e]
    exact endW_any ws f g (k + 1) (by omega) (by omega)
where
  endW_any (ws : List Str) : ∀ f g k : Nat, ws.length ≤ k + f → ws.length ≤ k + g → endW ws f k = endW ws g k
    | 0, g, k, h1, h2 => (endW_stop ws (k := k) (fun z => by have := z.1; omega) g).symm
    | f + 1, 0, k, h1, h2 => endW_stop ws (k := k) (fun z => by have := z.1; omega) (f + 1)
    | f + 1, g + 1, k, h1, h2 => by
      by_cases c : k < ws.length ∧ ws[k]? ≠ some ("with" : Str)
      · have e : ∀ n, endW ws (n + 1) k = endW ws n (k + 1) := fun n => by
          show (if k < ws.length ∧ ws[k]? ≠ some ("with" : Str) then endW ws n (k + 1) else k) = _
          rw [if_pos c]
        rw [e, e]
        exact endW_any ws f g (k + 1) (by omega) (by omega)
      · rw [endW_stop ws c, endW_stop ws c]
structure RdAt (Z : Adr) (H : Hp) (p dx lw ld : Addr) (ws : List Str) (k : Nat) (hd : Hds) (kvs : List (Key × V)) : Prop where
  o : H p = some (.ins Z.c_Reader dx (fs_Reader (.ref lw) (.int (k : Int)) (.ref ld)))
  w : H lw = some (.lst (ws.map V.str))
  d : H ld = some (.dK kvs)
  h : HdsAt H hd kvs
  sz : ∀ x ∈ ws, x.length ≤ 10000000
  so : ∀ x ∈ ws, PyData.strOk x = true
  n : ws.length ≤ 1000000
  k : k ≤ ws.length
theorem RdAt.same {Z : Adr} {H H' : Hp} {p dx lw ld : Addr} {ws : List Str} {k : Nat} {hd : Hds} {kvs : List (Key × V)} (h : RdAt Z H p dx lw ld ws k hd kvs) (S : Same H H') : RdAt Z H' p dx lw ld ws k hd kvs :=
  ⟨S _ _ h.o, S _ _ h.w, S _ _ h.d, h.h.mono (TupS.of S), h.sz, h.so, h.n, h.k⟩
theorem RdAt.new {Z : Adr} {H : Hp} {p dx lw ld q : Addr} {u : HO} {ws : List Str} {k : Nat} {hd : Hds} {kvs : List (Key × V)} (h : RdAt Z H p dx lw ld ws k hd kvs) (hq : H q = none) : RdAt Z (upd H q u) p dx lw ld ws k hd kvs := h.same (same_new hq)
theorem RdAt.own {Z : Adr} {H H' : Hp} {p dx lw ld q : Addr} {xs : List V} {ws : List Str} {k : Nat} {hd : Hds} {kvs : List (Key × V)} (h : RdAt Z H p dx lw ld ws k hd kvs) (B : But q H H') (hq : H q = some (.lst xs)) (nw : lw ≠ q) : RdAt Z H' p dx lw ld ws k hd kvs :=
  ⟨B.rd (ne_of h.o hq (by simp)) h.o, B.rd nw h.w, B.rd (ne_of h.d hq (by simp)) h.d, h.h.mono (TupS.butL B hq), h.sz, h.so, h.n, h.k⟩
theorem RdAt.go {Z : Adr} {H H' : Hp} {p dx lw ld : Addr} {ws : List Str} {k j : Nat} {hd : Hds} {kvs : List (Key × V)} (h : RdAt Z H p dx lw ld ws k hd kvs) (B : But p H H') (hp : H' p = some (.ins Z.c_Reader dx (fs_Reader (.ref lw) (.int (j : Int)) (.ref ld)))) (hj : j ≤ ws.length) : RdAt Z H' p dx lw ld ws j hd kvs :=
  ⟨hp, B.rd (ne_of h.w h.o (by simp)) h.w, B.rd (ne_of h.d h.o (by simp)) h.d, h.h.mono (TupS.but B h.o (by simp)), h.sz, h.so, h.n, hj⟩
theorem RdAt.tups {Z : Adr} {H H' : Hp} {p dx lw ld : Addr} {ws : List Str} {k : Nat} {hd : Hds} {kvs : List (Key × V)} (h : RdAt Z H p dx lw ld ws k hd kvs) (B : But p H H') : TupS H H' := TupS.but B h.o (by simp)
def NamesAt (H : Hp) : List (Str × List Str) → List V → Prop
  | [], vs => vs = []
  | (w, bx) :: r, vs => ∃ t tb us, vs = .ref t :: us ∧ H t = some (.tup [.str w, .ref tb]) ∧ H tb = some (.tup (bx.map V.str)) ∧ NamesAt H r us
theorem NamesAt.mono {H H' : Hp} (T : TupS H H') : ∀ {ns : List (Str × List Str)} {vs : List V}, NamesAt H ns vs → NamesAt H' ns vs
  | [], _, h => h
  | (_, _) :: _, _, ⟨t, tb, us, e, h1, h2, h3⟩ => ⟨t, tb, us, e, T _ _ h1, T _ _ h2, NamesAt.mono T h3⟩
theorem boxesW_len {ws : List Str} {en : Str} {m : Int} : ∀ {f : Nat} {bx : List Str} {k : Nat} {r : List Str × Nat}, boxesW ws en m f bx k = .ok r → (bx.length : Int) ≤ m → (r.1.length : Int) ≤ m
  | 0, bx, k, r, h, hl => by cases h
  | f + 1, bx, k, r, h, hl => by
    unfold boxesW at h
    by_cases c : ws[k]? = some en
    · rw [if_pos c] at h; cases h; exact hl
    rw [if_neg c] at h
    by_cases d : (bx.length : Int) = m
    · rw [if_pos d] at h; cases h
    rw [if_neg d] at h
    obtain ⟨a, e, h⟩ := bindT_ok h
    exact boxesW_len h (by rw [List.length_append, List.length_singleton]; omega)
theorem boxesW_ge {ws : List Str} {en : Str} {m : Int} : ∀ {f : Nat} {bx : List Str} {k : Nat} {r : List Str × Nat}, boxesW ws en m f bx k = .ok r → k ≤ r.2
  | 0, bx, k, r, h => by cases h
  | f + 1, bx, k, r, h => by
    unfold boxesW at h
    by_cases c : ws[k]? = some en
    · rw [if_pos c] at h; cases h; exact Nat.le_succ k
    rw [if_neg c] at h
    by_cases d : (bx.length : Int) = m
    · rw [if_pos d] at h; cases h
    rw [if_neg d] at h
    obtain ⟨a, e, h⟩ := bindT_ok h
    obtain ⟨_, _, e3, _⟩ := dueW_ok e
    have := boxesW_ge h
    omega
theorem same_own2 {p q : Addr} {H H1 H2 : Hp} (a : Same H H1) (b : But2 p q H1 H2) (hp : H p = none) (hq : H q = none) : Same H H2 := ⟨fun c o h k => b.st c o (.inl ⟨ne_of_none h hp, ne_of_none h hq⟩) (a.st c o h k) k, fun c ps h => (a.tb c ps h).elim fun ps' z => b.tb c ps' z, fun c t => b.tt c (a.tt c t)⟩
theorem or_by {t u : TT} {σ : L2.St} {H : Hp} {QB : Bool → Hp → Prop} (b1 b2 : Bool) (h1 : ∀ {QB' : Bool → Hp → Prop}, (∀ H1, Same H H1 → QB' b1 H1) → t σ H QB') (h2 : ∀ {H1 : Hp} {QB' : Bool → Hp → Prop}, Same H H1 → (∀ H2, Same H1 H2 → QB' b2 H2) → u σ H1 QB') (h : ∀ H1, Same H H1 → QB (b1 || b2) H1) : tOr t u σ H QB := by
  refine s_or (h1 fun H1 S1 => ?_)
  cases b1 with
  | true => exact s_ift (h H1 S1)
  | false => exact s_iff (h2 S1 fun H2 S2 => h H2 (S1.trans S2))
theorem NamesAt.len {H : Hp} : ∀ {ns : List (Str × List Str)} {vs : List V}, NamesAt H ns vs → vs.length = ns.length
  | [], vs, h => by
    have h : vs = [] := h
    subst h
    rfl
  | (_, _) :: _, _, ⟨t, tb, us, e, h1, h2, h3⟩ => by rw [e, List.length_cons, List.length_cons, h3.len]
theorem NamesAt.get {H : Hp} : ∀ {ns : List (Str × List Str)} {vs : List V} {i : Nat} {v : V}, NamesAt H ns vs → vs[i]? = some v → ∃ w bx t tb, ns[i]? = some (w, bx) ∧ v = .ref t ∧ H t = some (.tup [.str w, .ref tb]) ∧ H tb = some (.tup (bx.map V.str))
  | [], vs, i, v, h, e => by
    have h : vs = [] := h
    subst h
    cases e
  | (w, bx) :: _, _, 0, v, ⟨t, tb, us, e, h1, h2, h3⟩, ev => by
    subst e
    cases ev
    exact ⟨w, bx, t, tb, rfl, rfl, h1, h2⟩
  | (_, _) :: _, _, i + 1, v, ⟨t, tb, us, e, h1, h2, h3⟩, ev => by
    subst e
    exact h3.get ev
theorem NamesAt.app {H : Hp} {w : Str} {bx : List Str} {t tb : Addr} (h1 : H t = some (.tup [.str w, .ref tb])) (h2 : H tb = some (.tup (bx.map V.str))) : ∀ {ns : List (Str × List Str)} {vs : List V}, NamesAt H ns vs → NamesAt H (ns ++ [(w, bx)]) (vs ++ [.ref t])
  | [], vs, h => by
    have h : vs = [] := h
    subst h
    exact ⟨t, tb, [], rfl, h1, h2, rfl⟩
  | (_, _) :: _, _, ⟨t', tb', us, e, g1, g2, g3⟩ => by
    subst e
    exact ⟨t', tb', us ++ [.ref t], rfl, g1, g2, g3.app h1 h2⟩
/-! ### the promises -/
def q_word_of (Z : Adr) (a : V) (H : Hp) (Q : VK) (E : XK) : Prop := ∃ (i : Nat) (w : Str), a = .int (2 + i) ∧ WD[i]? = some w ∧ ∀ H', Same H H' → Q (.str w) H'
def q_kind_of (Z : Adr) (a : V) (H : Hp) (Q : VK) (E : XK) : Prop := ∃ w, a = .str w ∧ ∀ H', Same H H' → Q (optV (kindW w)) H'
def q_NoText_init (Z : Adr) (s a : V) (H : Hp) (Q : VK) (E : XK) : Prop := ∃ p, s = .ref p ∧ H p = some (exo p Z.c_NoText none) ∧ ∀ d, H d = none → d ≠ p → Q .non (upd (upd H d (exd d [("at", a)])) p (exo p Z.c_NoText (some d)))
theorem raise_NoText {Z : Adr} {H : Hp} {W : WX} {σ : L2.St} {k : Nat} (h : ∀ d H', Same H H' → XtAt H' d k → W (.ref Z.c_NoText) (some d) σ H') : zMkO Z.c_NoText (Sp2 (q_NoText_init Z)) [.int (k : Int)] H (fun cls d H' => W cls d σ H') := by
  refine ⟨by show 1 ≤ 1000; decide, fun a ha => ⟨.ref a, .int k, rfl, a, rfl, upd_same, fun d hd hda => ⟨rfl, d, [("at", .int k)], ?_, ?_, ?_, ?_⟩⟩⟩
  · rw [upd_same]
  · rw [upd_ne hda, upd_same]
  · rw [upd_ne hda] at hd; exact hd
  · rw [upd_ne hda] at hd
    refine h d _ (.all fun b o hb => ?_) upd_same
    have n1 : b ≠ d := ne_of_none hb hd
    have n2 : b ≠ a := ne_of_none hb ha
    rw [upd_ne n1, del_ne n2, upd_ne n2, upd_ne n1, upd_ne n2]
    exact hb
def q_is_of (Z : Adr) (a b c : V) (H : Hp) (Q : VK) (E : XK) : Prop := ∃ (w sg : Str) (m : Int), a = .str w ∧ b = .str sg ∧ c = .int m ∧ w.length ≤ 10000000 ∧ ∀ H', Same H H' → Q (.bl (isOf w sg m)) H'
def q_is_name (Z : Adr) (a : V) (H : Hp) (Q : VK) (E : XK) : Prop := ∃ w : Str, a = .str w ∧ w.length ≤ 10000000 ∧ ∀ H', Same H H' → Q (.bl (isName w)) H'
def q_is_number_of (Z : Adr) (a b : V) (H : Hp) (Q : VK) (E : XK) : Prop := ∃ (w : Str) (m : Int), a = .str w ∧ b = .int m ∧ w.length ≤ 10000000 ∧ ∀ H', Same H H' → Q (.bl (isNumM w m)) H'
def q_is_number_word (Z : Adr) (a : V) (H : Hp) (Q : VK) (E : XK) : Prop := ∃ w : Str, a = .str w ∧ w.length ≤ 10000000 ∧ ∀ H', Same H H' → Q (.bl (isNum w)) H'
def q_is_node_word (Z : Adr) (a b : V) (H : Hp) (Q : VK) (E : XK) : Prop := ∃ (w : Str) (lb : Addr) (bx : List Str), a = .str w ∧ b = .ref lb ∧ SqL Z.K H lb (bx.map V.str) ∧ w.length ≤ 10000000 ∧ ∀ H', Same H H' → Q (.bl (isNodeW bx w)) H'
def q_words_of_s (Z : Adr) (a : V) (H : Hp) (Q : VK) (E : XK) : Prop := ∃ t : Str, a = .str t ∧ t.length ≤ 1000000 ∧ ∀ l H', Same H H' → H l = none → H' l = some (.lst ((wordsT t).map V.str)) → Q (.ref l) H'
def q_heads_inp (Z : Adr) (a : V) (H : Hp) (Q : VK) (E : XK) : Prop := ∃ (lw : Addr) (ws : List Str), a = .ref lw ∧ H lw = some (.lst (ws.map V.str)) ∧ ws.length ≤ 1000000 ∧ ∀ ld kvs H', Same H H' → H ld = none → H' ld = some (.dK kvs) → HdsAt H' (headsW ws) kvs → Q (.ref ld) H'
def q_Reader_init (Z : Adr) (s a : V) (H : Hp) (Q : VK) (E : XK) : Prop := ∃ (p dx lw : Addr) (ws : List Str), s = .ref p ∧ a = .ref lw ∧ H p = some (.ins Z.c_Reader dx []) ∧ H lw = some (.lst (ws.map V.str)) ∧ ws.length ≤ 1000000 ∧ (∀ x ∈ ws, x.length ≤ 10000000 ∧ PyData.strOk x = true) ∧
  ∀ ld kvs H', But p H H' → RdAt Z H' p dx lw ld ws 0 (headsW ws) kvs → H ld = none → Q .non H'
def q_Reader_is_left (Z : Adr) (s : V) (H : Hp) (Q : VK) (E : XK) : Prop := ∃ p dx lw ld ws k hd kvs, s = .ref p ∧ RdAt Z H p dx lw ld ws k hd kvs ∧ ∀ H', Same H H' → Q (.bl (decide (k < ws.length))) H'
def q_Reader_due (Z : Adr) (F : NdefX.NF) (lp : List V → Hp → VK → Prop) (s : V) (H : Hp) (Q : VK) (E : XK) : Prop := ∃ (p dx lw ld : Addr) (ws : List Str) (k : Nat) (hd : Hds) (kvs : List (Key × V)) (fit : Str → Bool), s = .ref p ∧ RdAt Z H p dx lw ld ws k hd kvs ∧ H F.c = some (LamX.CodeO F.c F.qual) ∧
  (∀ w H1 Q1, Same H H1 → w ∈ ws → w.length ≤ 10000000 → (∀ H2, Same H1 H2 → Q1 (.bl (fit w)) H2) → lp [.str w] H1 Q1) ∧
  (∀ r, dueW fit ws k = .ok r → ∀ H', But p H H' → RdAt Z H' p dx lw ld ws r.2 hd kvs → Q (.str r.1) H') ∧ ∀ e, dueW fit ws k = .error e → ErrT Z p H e E
def q_Reader_fixed_word (Z : Adr) (s a : V) (H : Hp) (Q : VK) (E : XK) : Prop := ∃ (p dx lw ld : Addr) (ws : List Str) (k : Nat) (hd : Hds) (kvs : List (Key × V)) (x : Str), s = .ref p ∧ a = .str x ∧ TabsZ Z H ∧ RdAt Z H p dx lw ld ws k hd kvs ∧
  (∀ r, dueW (fun w => decide (w = x)) ws k = .ok r → ∀ H', But p H H' → RdAt Z H' p dx lw ld ws r.2 hd kvs → Q .non H') ∧ ∀ e, dueW (fun w => decide (w = x)) ws k = .error e → ErrT Z p H e E
def q_Reader_fresh_name (Z : Adr) (s a : V) (H : Hp) (Q : VK) (E : XK) : Prop := ∃ (p dx lw ld lt : Addr) (ws : List Str) (k : Nat) (hd : Hds) (kvs : List (Key × V)) (tk : List Str), s = .ref p ∧ a = .ref lt ∧ SqL Z.K H lt (tk.map V.str) ∧ TabsZ Z H ∧ RdAt Z H p dx lw ld ws k hd kvs ∧
  (∀ r, dueW (fun w => isName w && !decide (w ∈ tk)) ws k = .ok r → ∀ H', But p H H' → RdAt Z H' p dx lw ld ws r.2 hd kvs → Q (.str r.1) H') ∧ ∀ e, dueW (fun w => isName w && !decide (w ∈ tk)) ws k = .error e → ErrT Z p H e E
def q_Reader_boxes_to (Z : Adr) (s a b c : V) (H : Hp) (Q : VK) (E : XK) : Prop := ∃ (p dx lw ld lb : Addr) (ws : List Str) (k : Nat) (hd : Hds) (kvs : List (Key × V)) (en : Str) (bx : List Str) (m : Int), s = .ref p ∧ a = .str en ∧ b = .ref lb ∧ c = .int m ∧ PyData.strOk en = true ∧ H lb = some (.lst (bx.map V.str)) ∧ lw ≠ lb ∧ bx.length ≤ 20 ∧ m ≤ 20 ∧ TabsZ Z H ∧ RdAt Z H p dx lw ld ws k hd kvs ∧
  (∀ r, boxesW ws en m (ws.length + 1) bx k = .ok r → ∀ H', But2 p lb H H' → RdAt Z H' p dx lw ld ws r.2 hd kvs → H' lb = some (.lst (r.1.map V.str)) → Q .non H') ∧ ∀ e, boxesW ws en m (ws.length + 1) bx k = .error e → ∀ d H', But2 p lb H H' → XtAt H' d e → E (.ref Z.c_NoText) (some d) H'
def q_Reader_how_many (Z : Adr) (s a : V) (H : Hp) (Q : VK) (E : XK) : Prop := ∃ (p dx lw ld : Addr) (ws : List Str) (k : Nat) (hd : Hds) (kvs : List (Key × V)) (m : Int), s = .ref p ∧ a = .int m ∧ TabsZ Z H ∧ RdAt Z H p dx lw ld ws k hd kvs ∧
  (∀ r, dueW (fun w => isNum w && (decide (m ≤ numT w) && decide (numT w ≤ 12))) ws k = .ok r → ∀ H', But p H H' → RdAt Z H' p dx lw ld ws r.2 hd kvs → Q (.int (numT r.1)) H') ∧ ∀ e, dueW (fun w => isNum w && (decide (m ≤ numT w) && decide (numT w ≤ 12))) ws k = .error e → ErrT Z p H e E
def q_Reader_own_numbers (Z : Adr) (s a b : V) (H : Hp) (Q : VK) (E : XK) : Prop := ∃ (p dx lw ld lb : Addr) (ws : List Str) (k : Nat) (hd : Hds) (kvs : List (Key × V)) (bx : List Str) (kind : Int), s = .ref p ∧ a = .int kind ∧ b = .ref lb ∧ SqL Z.K H lb (bx.map V.str) ∧ lb ≠ p ∧ TabsZ Z H ∧ RdAt Z H p dx lw ld ws k hd kvs ∧
  (∀ o, ownW ws hd bx kind k = .ok o → ∀ t lo H', But p H H' → RdAt Z H' p dx lw ld ws o.2.2 hd kvs → H lo = none → H' t = some (.tup [.ref lo, .int o.2.1]) → H' lo = some (.lst (o.1.map V.int)) → Q (.ref t) H') ∧ ∀ e, ownW ws hd bx kind k = .error e → ErrT Z p H e E
def q_Reader_node (Z : Adr) (n : Nat) (s a b : V) (H : Hp) (Q : VK) (E : XK) : Prop := ∃ (p dx lw ld lb : Addr) (ws : List Str) (k : Nat) (hd : Hds) (kvs : List (Key × V)) (bx : List Str) (d : Int) (f : Nat), s = .ref p ∧ a = .ref lb ∧ b = .int d ∧ d + f = 11 ∧ f + 1 ≤ n ∧ SqL Z.K H lb (bx.map V.str) ∧ lb ≠ p ∧ (∀ h ∈ hd, 0 ≤ h.2.2 ∧ h.2.2 ≤ 1000000) ∧ TabsZ Z H ∧ RdAt Z H p dx lw ld ws k hd kvs ∧
  (∀ r, nodeW ws hd bx f k = .ok r → ∀ l H', But p H H' → RdAt Z H' p dx lw ld ws r.2 hd kvs → H l = none → H' l = some (.lst (r.1.map V.int)) → Q (.ref l) H') ∧ ∀ e, nodeW ws hd bx f k = .error e → ErrT Z p H e E
theorem no_Reader_node {Z : Adr} {s a b : V} {H : Hp} {Q : VK} {E : XK} : ¬ q_Reader_node Z 0 s a b H Q E := by
  rintro ⟨p, dx, lw, ld, lb, ws, k, hd, kvs, bx, d, f, _, _, _, _, hf, _⟩
  omega
def q_read_text_s (Z : Adr) (a : V) (H : Hp) (Q : VK) (E : XK) : Prop := ∃ t : Str, a = .str t ∧ t.length ≤ 500000 ∧ PyData.strOk t = true ∧ TabsZ Z H ∧
  (∀ r, readW (wordsT t) = .ok r → ∀ u tn ls vs H', Same H H' → H ls = none → H' u = some (.tup [.ref tn, .ref ls]) → H' tn = some (.tup vs) → NamesAt H' r.1 vs → H' ls = some (.lst (r.2.map V.int)) → Q (.ref u) H') ∧
  ∀ e, readW (wordsT t) = .error e → ∀ d H', Same H H' → XtAt H' d e → E (.ref Z.c_NoText) (some d) H'

/-! ### sheets as a law draws them -/
def HeadsOK (hs : List (Int × Int)) : Prop := 1 ≤ hs.length ∧ hs.length ≤ 16 ∧ ∀ (i : Nat) (h : Int × Int), hs[i]? = some h → 0 ≤ h.1 ∧ h.1 ≤ (if 0 < i then 4 else 0) ∧ h.1 ≤ h.2 ∧ h.2 ≤ 12
mutual
def enc : Nd → List Int
  | .mk k _ ns ps => k :: (ns ++ encs ps)
def encs : List Nd → List Int
  | [] => []
  | n :: ns => enc n ++ encs ns
end
mutual
/-- a node, its places forgotten -/
def strip : Nd → Nd
  | .mk k _ ns ps => .mk k 0 ns (strips ps)
def strips : List Nd → List Nd
  | [] => []
  | n :: ns => strip n :: strips ns
end
theorem strips_map : ∀ l : List Nd, strips l = l.map strip
  | [] => rfl
  | n :: l => by show strip n :: strips l = _; rw [strips_map l]; rfl
theorem encs_app : ∀ a b : List Nd, encs (a ++ b) = encs a ++ encs b
  | [], b => rfl
  | x :: a, b => by show enc x ++ encs (a ++ b) = _; rw [encs_app a b, ← List.append_assoc]; rfl
def OwnOK (hs : List (Int × Int)) (bx k : Int) (ns : List Int) (m : Nat) : Prop :=
  (k = 0 ∧ m = 0 ∧ ∃ v, ns = [v]) ∨ (((k = 1 ∧ m = 0) ∨ (k = 2 ∧ m = 1)) ∧ ∃ v, ns = [v] ∧ 0 ≤ v ∧ v < bx) ∨ (k = 3 ∧ 1 ≤ m ∧ m ≤ 12 ∧ ns = [(m : Int)]) ∨
  (k = 4 ∧ ∃ v : Nat, ns = [(v : Int)] ∧ 2 ≤ v ∧ v ≤ 12 ∧ m = v + 1) ∨ (k = 6 ∧ ∃ (v : Nat) (h : Int × Int), ns = [(v : Int)] ∧ hs[v]? = some h ∧ (m : Int) = h.1) ∨ (k = 5 ∧ m = 2 ∧ ns = []) ∨ (7 ≤ k ∧ ns = [] ∧ (m : Int) = manyP k)
def OkN (hs : List (Int × Int)) (bx : Int) : Nat → Nd → Prop
  | 0, _ => False
  | f + 1, .mk k _ ns ps => 0 ≤ k ∧ k ≤ 19 ∧ OwnOK hs bx k ns ps.length ∧ ∀ p ∈ ps, OkN hs bx f p
theorem at_drop {xs : List Int} {k : Nat} {a : Int} {r : List Int} (h : xs.drop k = a :: r) : xs[k]? = some a ∧ xs.drop (k + 1) = r := by
  constructor
  · have := congrArg (·[0]?) h
    simpa using this
  · have := congrArg (List.drop 1) h
    rw [List.drop_drop] at this
    simpa using this
theorem drop_app {xs a r : List Int} {k : Nat} (h : xs.drop k = a ++ r) : xs.drop (k + a.length) = r := by
  have := congrArg (List.drop a.length) h
  rw [List.drop_drop] at this
  simpa using this
theorem ownP_of {xs : List Int} {hs : List (Int × Int)} {bx kind : Int} {k m : Nat} {ns r : List Int} (h : OwnOK hs bx kind ns m) (e : xs.drop k = ns ++ r) : ownP xs hs bx kind k = .ok (ns, (m : Int), k + ns.length) := by
  unfold ownP
  rcases h with ⟨rfl, rfl, v, rfl⟩ | ⟨h, v, rfl, v0, v1⟩ | ⟨rfl, m1, m2, rfl⟩ | ⟨rfl, v, rfl, v0, v1, rfl⟩ | ⟨rfl, v, h, rfl, eh, em⟩ | ⟨rfl, rfl, rfl⟩ | ⟨hk, rfl, em⟩
  · rw [if_pos rfl, bindR_of (dueP_of (at_drop e).1)]; rfl
  · rcases h with ⟨rfl, rfl⟩ | ⟨rfl, rfl⟩
    · rw [if_neg (by omega), if_pos rfl, bindR_of (withinP_of (at_drop e).1 v0 (by omega))]; rfl
    · rw [if_neg (by omega), if_neg (by omega), if_pos rfl, bindR_of (withinP_of (at_drop e).1 v0 (by omega))]; rfl
  · rw [if_neg (by omega), if_neg (by omega), if_neg (by omega), if_pos rfl, bindR_of (withinP_of (at_drop e).1 (by omega) (by omega))]; rfl
  · rw [if_neg (by omega), if_neg (by omega), if_neg (by omega), if_neg (by omega), if_pos rfl, bindR_of (withinP_of (at_drop e).1 (by omega) (by omega))]; rfl
  · have hv := (List.getElem?_eq_some_iff.mp eh).1
    rw [if_neg (by omega), if_neg (by omega), if_neg (by omega), if_neg (by omega), if_neg (by omega), if_pos rfl, bindR_of (withinP_of (at_drop e).1 (by omega) (by omega))]
    have : (hs.getD (v : Int).toNat (0, 0)).1 = (m : Int) := by
      rw [Int.toNat_natCast, List.getD_eq_getElem?_getD, eh, em]; rfl
    rw [this]; rfl
  · rw [if_neg (by omega), if_neg (by omega), if_neg (by omega), if_neg (by omega), if_neg (by omega), if_neg (by omega), if_pos rfl]; rfl
  · rw [if_neg (by omega), if_neg (by omega), if_neg (by omega), if_neg (by omega), if_neg (by omega), if_neg (by omega), if_neg (by omega), em]; rfl
theorem parts_of {xs : List Int} {f : Nat → Rz (Nd × Nat)} {k : Nat} {ps : List Nd} {r : List Int} (hf : ∀ p ∈ ps, ∀ k r, xs.drop k = enc p ++ r → ∃ t, f k = .ok (t, k + (enc p).length) ∧ strip t = strip p) (e : xs.drop k = encs ps ++ r) :
    ∀ m, m ≤ ps.length → ∃ ts, partsP f m k = .ok (ts, k + (encs (ps.take m)).length) ∧ ts.map strip = (ps.take m).map strip
  | 0, _ => ⟨[], rfl, rfl⟩
  | m + 1, hm => by
    obtain ⟨ts, h, hst⟩ := parts_of hf e m (by omega)
    have hm' : m < ps.length := by omega
    have e1 : ps = ps.take m ++ ps[m] :: ps.drop (m + 1) := by rw [← List.drop_eq_getElem_cons hm', List.take_append_drop]
    have e2 : encs ps = encs (ps.take m) ++ (enc ps[m] ++ encs (ps.drop (m + 1))) := by
      conv => lhs; rw [e1]
      rw [encs_app]; rfl
    rw [e2, List.append_assoc] at e
    have e3 := drop_app e
    rw [List.append_assoc] at e3
    obtain ⟨t, ht, hst2⟩ := hf _ (List.getElem_mem hm') _ _ e3
    refine ⟨ts ++ [t], ?_, by rw [List.take_succ_eq_append_getElem hm', List.map_append, List.map_append, hst]; show _ ++ [strip t] = _ ++ [strip ps[m]]; rw [hst2]⟩
    show bindR (partsP f m k) _ = _
    rw [bindR_of h, bindR_of ht, List.take_succ_eq_append_getElem hm', encs_app]
    simp only [encs, List.append_nil, List.length_append]
    rw [Nat.add_assoc]
theorem node_of {xs : List Int} {hs : List (Int × Int)} {bx : Int} : ∀ {f : Nat} {t : Nd} {k : Nat} {r : List Int}, OkN hs bx f t → xs.drop k = enc t ++ r → ∃ t', nodeP xs hs bx f k = .ok (t', k + (enc t).length) ∧ strip t' = strip t
  | 0, t, _, _, h, _ => by cases t; exact h.elim
  | f + 1, .mk kind pl ns ps, k, r, h, e => by
    obtain ⟨h0, h1, ho, hp⟩ := h
    have e : xs.drop k = kind :: (ns ++ encs ps ++ r) := by simpa [enc] using e
    obtain ⟨e1, e2⟩ := at_drop e
    rw [List.append_assoc] at e2
    have e3 := drop_app e2
    obtain ⟨ts, h3, hst⟩ := parts_of (f := nodeP xs hs bx f) (fun p hm k r hk => node_of (hp p hm) hk) e3 ps.length (Nat.le_refl _)
    rw [List.take_length] at hst
    refine ⟨.mk kind k ns ts, ?_, by show Nd.mk kind 0 ns (strips ts) = .mk kind 0 ns (strips ps); rw [strips_map, strips_map, hst]⟩
    unfold nodeP
    rw [bindR_of (withinP_of e1 h0 h1), bindR_of (ownP_of ho e2)]
    rw [List.take_length] at h3
    have h3' : partsP (nodeP xs hs bx f) ((ps.length : Int).toNat) (k + 1 + ns.length) = .ok (ts, k + 1 + ns.length + (encs ps).length) := by rw [Int.toNat_natCast]; exact h3
    show bindR (partsP (nodeP xs hs bx f) ((ps.length : Int).toNat) (k + 1 + ns.length)) _ = _
    rw [bindR_of h3']
    simp only [enc, List.length_cons, List.length_append]
    congr 2
    omega
def flat (hs : List (Int × Int)) : List Int := hs.flatMap fun h => [h.1, h.2]
theorem flat_len (hs : List (Int × Int)) : (flat hs).length = 2 * hs.length := by
  induction hs with
  | nil => rfl
  | cons h hs ih => show ((h.1 :: h.2 :: flat hs)).length = _; rw [List.length_cons, List.length_cons, ih, List.length_cons]; omega
theorem flat_app (a b : List (Int × Int)) : flat (a ++ b) = flat a ++ flat b := List.flatMap_append
theorem flat_at : ∀ {hs : List (Int × Int)} {i : Nat} {h : Int × Int} {r : List Int}, hs[i]? = some h → (flat hs ++ r)[2 * i]? = some h.1 ∧ (flat hs ++ r)[2 * i + 1]? = some h.2
  | h :: hs, 0, _, r, e => by cases e; exact ⟨rfl, rfl⟩
  | x :: hs, i + 1, h, r, e => by
    have := flat_at (hs := hs) (i := i) (r := r) (by simpa using e)
    have e2 : flat (x :: hs) ++ r = x.1 :: x.2 :: (flat hs ++ r) := rfl
    rw [e2, show 2 * (i + 1) = 2 * i + 1 + 1 by omega]
    exact this
theorem heads_of {hs : List (Int × Int)} {r : List Int} (H : HeadsOK hs) : ∀ i, i ≤ hs.length → headsL ((hs.length : Int) :: (flat hs ++ r)) i = .ok (hs.take i)
  | 0, _ => rfl
  | i + 1, hi => by
    have hi' : i < hs.length := by omega
    have eh : hs[i]? = some hs[i] := List.getElem?_eq_getElem hi'
    obtain ⟨a0, a1, a2, a3⟩ := H.2.2 i _ eh
    have f := flat_at (r := r) eh
    unfold headsL
    rw [bindR_of (heads_of H i (by omega)), bindR_of (withinP_of (v := hs[i].1) (by rw [show 1 + 2 * i = 2 * i + 1 by omega]; exact f.1) a0 a1),
      bindR_of (withinP_of (v := hs[i].2) (by rw [show 2 + 2 * i = 2 * i + 1 + 1 by omega]; exact f.2) a2 a3), List.take_succ_eq_append_getElem hi']
theorem headsP_of {hs : List (Int × Int)} {r : List Int} (H : HeadsOK hs) : headsP ((hs.length : Int) :: (flat hs ++ r)) = .ok hs := by
  have := H.1
  have := H.2.1
  unfold headsP
  rw [bindR_of (withinP_of (v := (hs.length : Int)) rfl (by omega) (by omega)), Int.toNat_natCast, heads_of H _ (Nat.le_refl _), List.take_length]
theorem bodies_of {xs : List Int} {hs : List (Int × Int)} {k : Nat} {ts : List Nd} (hl : ts.length = hs.length) (ho : ∀ (i : Nat) (h : Int × Int) (t : Nd), hs[i]? = some h → ts[i]? = some t → OkN hs h.2 10 t) (e : xs.drop k = encs ts) :
    ∀ m, m ≤ hs.length → ∃ bs, bodiesP xs hs m k = .ok (bs, k + (encs (ts.take m)).length) ∧ bs.map strip = (ts.take m).map strip
  | 0, _ => ⟨[], rfl, rfl⟩
  | m + 1, hm => by
    obtain ⟨bs, h, hst⟩ := bodies_of hl ho e m (by omega)
    have hm' : m < hs.length := by omega
    have hmt : m < ts.length := by omega
    have eh : hs[m]? = some hs[m] := List.getElem?_eq_getElem hm'
    have e1 : ts = ts.take m ++ ts[m] :: ts.drop (m + 1) := by rw [← List.drop_eq_getElem_cons hmt, List.take_append_drop]
    have e2 : encs ts = encs (ts.take m) ++ (enc ts[m] ++ encs (ts.drop (m + 1))) := by
      conv => lhs; rw [e1]
      rw [encs_app]; rfl
    have e3 : xs.drop k = encs (ts.take m) ++ (enc ts[m] ++ encs (ts.drop (m + 1))) := by rw [e, e2]
    obtain ⟨t, ht, hst2⟩ := node_of (ho m _ _ eh (List.getElem?_eq_getElem hmt)) (drop_app e3)
    have ed : hs.getD m (0, 0) = hs[m] := by rw [List.getD_eq_getElem?_getD, eh]; rfl
    refine ⟨bs ++ [t], ?_, by rw [List.take_succ_eq_append_getElem hmt, List.map_append, List.map_append, hst]; show _ ++ [strip t] = _ ++ [strip ts[m]]; rw [hst2]⟩
    unfold bodiesP
    rw [bindR_of h, ed, bindR_of ht, List.take_succ_eq_append_getElem hmt, encs_app]
    simp only [encs, List.append_nil, List.length_append]
    rw [Nat.add_assoc]
theorem sheet_ofS {hs : List (Int × Int)} {ts : List Nd} (H : HeadsOK hs) (hl : ts.length = hs.length) (ho : ∀ (i : Nat) (h : Int × Int) (t : Nd), hs[i]? = some h → ts[i]? = some t → OkN hs h.2 10 t) : ∃ bs, funsP ((hs.length : Int) :: (flat hs ++ encs ts)) = .ok (hs, bs) ∧ bs.map strip = ts.map strip := by
  have e : ((hs.length : Int) :: (flat hs ++ encs ts)).drop (1 + 2 * hs.length) = encs ts := by
    rw [Nat.add_comm, List.drop_succ_cons, ← flat_len hs, List.drop_left]
  obtain ⟨bs, h, hst⟩ := bodies_of hl ho e hs.length (Nat.le_refl _)
  rw [← hl, List.take_length] at hst
  refine ⟨bs, ?_, hst⟩
  unfold funsP
  rw [bindR_of (headsP_of H), bindR_of h, if_neg ?_]
  rw [← hl, List.take_length, hl]
  simp only [List.length_cons, List.length_append, flat_len]
  omega
theorem sheet_of {hs : List (Int × Int)} {ts : List Nd} (H : HeadsOK hs) (hl : ts.length = hs.length) (ho : ∀ (i : Nat) (h : Int × Int) (t : Nd), hs[i]? = some h → ts[i]? = some t → OkN hs h.2 10 t) : ∃ bs, funsP ((hs.length : Int) :: (flat hs ++ encs ts)) = .ok (hs, bs) := by
  obtain ⟨bs, h, _⟩ := sheet_ofS H hl ho
  exact ⟨bs, h⟩

/-! ### programs written as words, read back -/
abbrev Nms := List (Str × List Str)
def strI (v : Int) : Str := Str.ofString (toString v)
theorem strI_ls (v : Int) : (strI v).cps.toList = sgI v := str_int v
theorem FIG_ls : FIG.cps.toList = [48, 49, 50, 51, 52, 53, 54, 55, 56, 57] := by decide +kernel
theorem LET_mem {c : Nat} (h : c ∈ LET.cps.toList) : 97 ≤ c ∧ c ≤ 122 := by
  have : ∀ c ∈ LET.cps.toList, 97 ≤ c ∧ c ≤ 122 := by decide +kernel
  exact this c h
theorem isOf_of {w sg : Str} {m : Int} (h1 : w.cps.toList ≠ []) (h2 : (w.cps.toList.length : Int) ≤ m) (h3 : ∀ c ∈ w.cps.toList, c ∈ sg.cps.toList) : isOf w sg m = true := by
  unfold isOf
  rw [len_ls]
  have : 1 ≤ w.cps.toList.length := Nat.pos_of_ne_zero fun z => h1 (List.eq_nil_of_length_eq_zero z)
  simp only [Bool.and_eq_true, decide_eq_true_eq, List.all_eq_true]
  exact ⟨by omega, h2, h3⟩
theorem figs_str (v : Int) : figsW (strI v) = ofL (TL.numL v.natAbs) := by
  have e := strI_ls v
  unfold sgI at e
  by_cases c : v < 0
  · rw [if_pos c] at e
    rw [(figsW_is (strI v)).1 (by rw [e]; rfl), e]
    rfl
  · rw [if_neg c] at e
    have : (strI v).cps.toList.head? ≠ some 45 := by
      rw [e]
      intro z
      have := TL.numL_digits v.natAbs 45 (List.mem_of_mem_head? z)
      omega
    rw [(figsW_is (strI v)).2 this, ← e]
    rfl
theorem isNumM_str {v : Int} {k : Nat} (hk : 0 < k) (h : v.natAbs < 10 ^ k) : isNumM (strI v) (k : Int) = true := by
  unfold isNumM
  rw [figs_str, ls_ofL]
  have h1 : isOf (ofL (TL.numL v.natAbs)) FIG (k : Int) = true := isOf_of (by rw [ls_ofL]; exact TL.numL_ne _) (by rw [ls_ofL]; have := TL.numL_len hk h; omega) (fun c hc => by
    rw [ls_ofL] at hc
    have := TL.numL_digits _ c hc
    rw [FIG_ls]
    simp only [List.mem_cons, List.not_mem_nil, or_false]
    omega)
  rw [h1, Bool.true_and, Bool.or_eq_true]
  by_cases z : v.natAbs = 0
  · right
    have : v = 0 := by omega
    subst this
    decide +kernel
  · left
    obtain ⟨d, r, e, d1, d2⟩ := numL_head z
    rw [e]
    simp
    omega
theorem numT_str {v : Int} (h : v.natAbs < 10 ^ 600) : numT (strI v) = v := by
  have e := strI_ls v
  unfold sgI at e
  have l := TL.numL_len (k := 600) (by decide) h
  unfold numT
  by_cases c : v < 0
  · rw [if_pos c] at e
    rw [PySem.intText_neg e (TL.numL_digits _) (TL.numL_ne _) (by rw [len_ls, e, List.length_cons]; omega), TL.numL_val]
    show -((v.natAbs : Nat) : Int) = v
    omega
  · rw [if_neg c] at e
    rw [PySem.intText_digits (by rw [e]; exact TL.numL_digits _) (by rw [e]; exact TL.numL_ne _) (by rw [len_ls, e]; omega), e, TL.numL_val]
    show ((v.natAbs : Nat) : Int) = v
    omega
theorem pow_le600 {n k : Nat} (h : n < 10 ^ k) (hk : k ≤ 600) : n < 10 ^ 600 := Nat.lt_of_lt_of_le h (Nat.pow_le_pow_right (by decide) hk)
theorem isNum_str {v : Int} (h : v.natAbs < 10 ^ 60) : isNum (strI v) = true ∧ numT (strI v) = v := ⟨isNumM_str (k := 60) (by decide) h, numT_str (pow_le600 h (by decide))⟩
theorem isName_parts {w : Str} (h : isName w = true) : w ∉ (["fun", "with", "is"] : List Str) ∧ kindW w = none ∧ w.cps.toList ≠ [] ∧ (w.length : Int) ≤ 8 ∧ ∀ c ∈ w.cps.toList, 97 ≤ c ∧ c ≤ 122 := by
  unfold isName at h
  obtain ⟨h1, h2⟩ := Bool.and_eq_true_iff.mp h
  obtain ⟨a, b, c⟩ := isOf_parts h2
  simp only [Bool.not_eq_true', Bool.or_eq_false_iff, decide_eq_false_iff_not] at h1
  exact ⟨h1.1, by simpa using h1.2, a, b, fun x hx => LET_mem (c x hx)⟩
theorem isName_num {w : Str} (h : isName w = true) : ∀ m, isNumM w m = false := fun m => by
  obtain ⟨_, _, a, _, c⟩ := isName_parts h
  cases e : isNumM w m with
  | false => rfl
  | true =>
    exfalso
    unfold isNumM at e
    obtain ⟨f1, _, f3⟩ := isOf_parts (Bool.and_eq_true_iff.mp e).1
    have hd : w.cps.toList.head? ≠ some 45 := fun z => by have := c 45 (List.mem_of_mem_head? z); omega
    rw [(figsW_is w).2 hd] at f1 f3
    cases q : w.cps.toList with
    | nil => exact a q
    | cons x r =>
      have h1 := c x (by rw [q]; exact List.mem_cons_self)
      have h2 := FIG_mem (f3 x (by rw [q]; exact List.mem_cons_self))
      omega
def wordK (k : Int) : Str := WD.getD (k - 2).toNat ""
theorem wordK_all : ∀ i : _root_.Fin 18, kindW (WD.getD i.val "") = some ((i.val : Int) + 2) ∧ isNum (WD.getD i.val "") = false ∧ WD.getD i.val "" ≠ ("fun" : Str) ∧ (WD.getD i.val "" ≠ ("with" : Str) ∧ WD.getD i.val "" ≠ ("is" : Str)) := by decide +kernel
theorem wordK_is {k : Int} (h2 : 2 ≤ k) (h19 : k ≤ 19) : kindW (wordK k) = some k ∧ isNum (wordK k) = false ∧ wordK k ≠ ("fun" : Str) ∧ (wordK k ≠ ("with" : Str) ∧ wordK k ≠ ("is" : Str)) := by
  obtain ⟨i, rfl⟩ : ∃ i : Nat, k = (i : Int) + 2 := ⟨(k - 2).toNat, by omega⟩
  have := wordK_all ⟨i, by omega⟩
  have e : wordK ((i : Int) + 2) = WD.getD i "" := by unfold wordK; rw [show ((i : Int) + 2 - 2).toNat = i by omega]
  rw [e]
  exact this
theorem num_words : isNum "fun" = false ∧ isNum "with" = false ∧ isNum "is" = false := by decide +kernel
def headW (nm : Nms) (bx : List Str) (k v : Int) : List Str :=
  if k = 0 then [strI v] else if k = 1 then [bx.getD v.toNat ""] else
  wordK k :: (if k = 2 then [bx.getD v.toNat ""] else if k = 3 ∨ k = 4 then [strI v] else if k = 6 then [(nm.getD v.toNat ("", [])).1] else [])
mutual
def wordsN (nm : Nms) (bx : List Str) : Nd → List Str
  | .mk k _ ns ps => headW nm bx k (ns.headD 0) ++ wordsNs nm bx ps
def wordsNs (nm : Nms) (bx : List Str) : List Nd → List Str
  | [] => []
  | n :: ns => wordsN nm bx n ++ wordsNs nm bx ns
end
theorem wordsNs_app (nm : Nms) (bx : List Str) : ∀ a b : List Nd, wordsNs nm bx (a ++ b) = wordsNs nm bx a ++ wordsNs nm bx b
  | [], b => rfl
  | x :: a, b => by show wordsN nm bx x ++ wordsNs nm bx (a ++ b) = _; rw [wordsNs_app nm bx a b, ← List.append_assoc]; rfl
/-- names that fit -/
structure NmOK (nm : Nms) (hs : List (Int × Int)) : Prop where
  l : nm.length = hs.length
  n : ∀ x ∈ nm, isName x.1 = true ∧ (∀ w ∈ x.2, isName w = true) ∧ x.2.Nodup
  d : (nm.map (·.1)).Nodup
  b : ∀ (i : Nat) (x : Str × List Str) (h : Int × Int), nm[i]? = some x → hs[i]? = some h → (x.2.length : Int) = h.2
theorem atw_drop {α : Type} {xs : List α} {k : Nat} {a : α} {r : List α} (h : xs.drop k = a :: r) : xs[k]? = some a ∧ xs.drop (k + 1) = r := by
  constructor
  · have := congrArg (·[0]?) h
    simpa using this
  · have := congrArg (List.drop 1) h
    rw [List.drop_drop] at this
    simpa using this
theorem dropw_app {α : Type} {xs a r : List α} {k : Nat} (h : xs.drop k = a ++ r) : xs.drop (k + a.length) = r := by
  have := congrArg (List.drop a.length) h
  rw [List.drop_drop] at this
  simpa using this
theorem dueW_of {fit : Str → Bool} {ws r : List Str} {k : Nat} {w : Str} (h : ws.drop k = w :: r) (hf : fit w = true) : dueW fit ws k = .ok (w, k + 1) := by
  unfold dueW
  rw [(atw_drop h).1]
  exact if_pos hf
theorem boxW_of {bx : List Str} {i : Nat} {w : Str} (hn : bx.Nodup) (h : bx[i]? = some w) : boxW w bx = (i : Int) := by
  obtain ⟨j, e, e1, e2⟩ := boxW_at (List.mem_of_getElem? h)
  rw [e]
  have : j = i := by
    obtain ⟨hi, a⟩ := List.getElem?_eq_some_iff.mp h
    obtain ⟨hj, b⟩ := List.getElem?_eq_some_iff.mp e1
    exact (List.getElem_inj hn).mp (b.trans a.symm)
  rw [this]
theorem getD_of {α : Type} {l : List α} {i : Nat} {x d : α} (h : l[i]? = some x) : l.getD i d = x := by rw [List.getD_eq_getElem?_getD, h]; rfl
/-- the table of heads fits -/
def HdOK (hd : Hds) (nm : Nms) (hs : List (Int × Int)) : Prop := ∀ (i : Nat) (x : Str × List Str) (h : Int × Int), nm[i]? = some x → hs[i]? = some h → hdOf hd x.1 = some ((i : Int), h.1)
theorem parts_words {ws : List Str} {f : Nat → Rt (List Int × Nat)} {nm : Nms} {bx : List Str} {k : Nat} {ps : List Nd} {r : List Str} (hf : ∀ p ∈ ps, ∀ k r, ws.drop k = wordsN nm bx p ++ r → f k = .ok (enc p, k + (wordsN nm bx p).length)) (e : ws.drop k = wordsNs nm bx ps ++ r) :
    ∀ m, m ≤ ps.length → partsW f m k = .ok (encs (ps.take m), k + (wordsNs nm bx (ps.take m)).length)
  | 0, _ => rfl
  | m + 1, hm => by
    have h := parts_words hf e m (by omega)
    have hm' : m < ps.length := by omega
    have e1 : ps = ps.take m ++ ps[m] :: ps.drop (m + 1) := by rw [← List.drop_eq_getElem_cons hm', List.take_append_drop]
    have e2 : wordsNs nm bx ps = wordsNs nm bx (ps.take m) ++ (wordsN nm bx ps[m] ++ wordsNs nm bx (ps.drop (m + 1))) := by
      conv => lhs; rw [e1]
      rw [wordsNs_app]; rfl
    rw [e2, List.append_assoc] at e
    have e3 := dropw_app e
    rw [List.append_assoc] at e3
    have ht := hf _ (List.getElem_mem hm') _ _ e3
    show bindT (partsW f m k) _ = _
    rw [bindT_of h, bindT_of ht, List.take_succ_eq_append_getElem hm', encs_app, wordsNs_app]
    simp only [encs, wordsNs, List.append_nil, List.length_append]
    rw [Nat.add_assoc]
theorem node_words {ws : List Str} {hd : Hds} {nm : Nms} {hs : List (Int × Int)} {bx : List Str} (N : NmOK nm hs) (D : HdOK hd nm hs) (hb : ∀ w ∈ bx, isName w = true) (hn : bx.Nodup) :
    ∀ {f : Nat} {t : Nd} {k : Nat} {r : List Str}, OkN hs (bx.length : Int) f t → (∀ x ∈ enc t, x.natAbs < 10 ^ 60) → ws.drop k = wordsN nm bx t ++ r → nodeW ws hd bx f k = .ok (enc t, k + (wordsN nm bx t).length)
  | 0, t, _, _, h, _, _ => by cases t; exact h.elim
  | f + 1, .mk kind pl ns ps, k, r, h, hx, e => by
    obtain ⟨h0, h1, ho, hp⟩ := h
    have e : ws.drop k = headW nm bx kind (ns.headD 0) ++ (wordsNs nm bx ps ++ r) := by rw [← List.append_assoc]; exact e
    have hx0 : ∀ x ∈ ns, x.natAbs < 10 ^ 60 := fun x hxx => hx x (by show x ∈ kind :: (ns ++ encs ps); simp [hxx])
    have notin : ∀ {w : Str}, isName w = false → w ∉ bx := fun z hm => by rw [hb _ hm] at z; cases z
    have numNot : ∀ {v : Int}, v.natAbs < 10 ^ 60 → strI v ∉ bx := fun {v} hv hm => by
      have a := isName_num (hb _ hm) 60
      rw [show isNumM (strI v) 60 = true from (isNum_str hv).1] at a; cases a
    show bindT (dueW (isNodeW bx) ws k) _ = _
    have lenE : ∀ (a : List Str), (a ++ wordsNs nm bx ps).length = a.length + (wordsNs nm bx ps).length := fun a => List.length_append
    by_cases k0 : kind = 0
    · subst k0
      rcases ho with ⟨_, pm, v, rfl⟩ | ⟨⟨h, _⟩ | ⟨h, _⟩, _⟩ | ⟨h, _⟩ | ⟨h, _⟩ | ⟨h, _⟩ | ⟨h, _⟩ | ⟨h, _⟩ <;> first | (exfalso; omega) | skip
      cases ps with
      | cons _ _ => cases pm
      | nil =>
        have hv := hx0 v (List.mem_singleton.mpr rfl)
        obtain ⟨n1, n2⟩ := isNum_str hv
        have e : ws.drop k = strI v :: r := e
        rw [bindT_of (dueW_of e (by unfold isNodeW; rw [n1]; simp))]
        dsimp only
        rw [if_neg (numNot hv), if_pos n1, n2]
        rfl
    by_cases k1 : kind = 1
    · subst k1
      rcases ho with ⟨h, _⟩ | ⟨⟨_, pm⟩ | ⟨h, _⟩, v, rfl, v0, v1⟩ | ⟨h, _⟩ | ⟨h, _⟩ | ⟨h, _⟩ | ⟨h, _⟩ | ⟨h, _⟩ <;> first | (exfalso; omega) | skip
      cases ps with
      | cons _ _ => cases pm
      | nil =>
        have hv : v.toNat < bx.length := by omega
        have eb : bx[v.toNat]? = some bx[v.toNat] := List.getElem?_eq_getElem hv
        have e : ws.drop k = bx.getD v.toNat "" :: r := e
        have em : bx.getD v.toNat "" = bx[v.toNat] := getD_of eb
        rw [bindT_of (dueW_of e (by unfold isNodeW; rw [em]; simp))]
        dsimp only
        rw [if_pos (by rw [em]; exact List.getElem_mem hv), em, boxW_of hn eb, Int.toNat_of_nonneg v0]
        rfl
    have k2 : 2 ≤ kind := by omega
    obtain ⟨w1, w2, w3, w4⟩ := wordK_is k2 h1
    have wn : isName (wordK kind) = false := by unfold isName; rw [w1]; simp
    have eh : headW nm bx kind (ns.headD 0) = wordK kind :: (headW nm bx kind (ns.headD 0)).tail := by unfold headW; rw [if_neg k0, if_neg k1]; rfl
    generalize et : (headW nm bx kind (ns.headD 0)).tail = tl at eh
    have et : tl = (if kind = 2 then [bx.getD (ns.headD 0).toNat ""] else if kind = 3 ∨ kind = 4 then [strI (ns.headD 0)] else if kind = 6 then [(nm.getD (ns.headD 0).toNat ("", [])).1] else []) := by
      rw [← et]; unfold headW; rw [if_neg k0, if_neg k1]; rfl
    rw [eh] at e
    have e1 : ws.drop k = wordK kind :: (tl ++ (wordsNs nm bx ps ++ r)) := e
    rw [bindT_of (dueW_of e1 (by unfold isNodeW; rw [w1]; simp))]
    dsimp only
    rw [if_neg (notin wn), if_neg (by rw [w2]; decide), w1]
    dsimp only
    have e2 := (atw_drop e1).2
    have own : ownW ws hd bx kind (k + 1) = .ok (ns, (ps.length : Int), k + 1 + tl.length) := by
      unfold ownW
      rcases ho with ⟨h, _⟩ | ⟨⟨h, _⟩ | ⟨h2, pm⟩, v, rfl, v0, v1⟩ | ⟨h3, m1, m2, rfl⟩ | ⟨h4, v, rfl, v0, v1, pm⟩ | ⟨h6, v, h, rfl, ehs, pm⟩ | ⟨h5, pm, rfl⟩ | ⟨h7, rfl, pm⟩
      · exact absurd h k0
      · exact absurd h k1
      · have hv : v.toNat < bx.length := by omega
        have eb : bx[v.toNat]? = some bx[v.toNat] := List.getElem?_eq_getElem hv
        have em : bx.getD v.toNat "" = bx[v.toNat] := getD_of eb
        rw [if_pos h2] at et
        rw [if_pos h2]
        subst et
        have e2 : ws.drop (k + 1) = bx.getD v.toNat "" :: (wordsNs nm bx ps ++ r) := e2
        rw [bindT_of (dueW_of e2 (by rw [em]; simp))]
        dsimp only
        rw [em, boxW_of hn eb, Int.toNat_of_nonneg v0, pm]
        rfl
      · have hm : ((ps.length : Int)).natAbs < 10 ^ 60 := hx0 _ (List.mem_singleton.mpr rfl)
        obtain ⟨n1, n2⟩ := isNum_str hm
        rw [if_neg (by omega), if_pos (.inl h3)] at et
        rw [if_neg (by omega), if_pos h3]
        subst et
        have e2 : ws.drop (k + 1) = strI (ps.length : Int) :: (wordsNs nm bx ps ++ r) := e2
        rw [bindT_of (dueW_of e2 (by rw [n1, n2]; simp; omega))]
        dsimp only
        rw [n2]
        rfl
      · have hm : ((v : Int)).natAbs < 10 ^ 60 := hx0 _ (List.mem_singleton.mpr rfl)
        obtain ⟨n1, n2⟩ := isNum_str hm
        rw [if_neg (by omega), if_pos (.inr h4)] at et
        rw [if_neg (by omega), if_neg (by omega), if_pos h4]
        subst et
        have e2 : ws.drop (k + 1) = strI (v : Int) :: (wordsNs nm bx ps ++ r) := e2
        rw [bindT_of (dueW_of e2 (by rw [n1, n2]; simp; omega))]
        dsimp only
        rw [n2, pm]
        rfl
      · have hv : v < nm.length := by rw [N.l]; exact (List.getElem?_eq_some_iff.mp ehs).1
        have en : nm[v]? = some nm[v] := List.getElem?_eq_getElem hv
        have hd1 := D v _ _ en ehs
        have ed : nm.getD ((v : Int)).toNat ("", []) = nm[v] := by rw [Int.toNat_natCast]; exact getD_of en
        rw [if_neg (by omega), if_neg (by omega), if_pos h6] at et
        rw [if_neg (by omega), if_neg (by omega), if_neg (by omega), if_pos h6]
        subst et
        have e2 : ws.drop (k + 1) = (nm.getD ((v : Int)).toNat ("", [])).1 :: (wordsNs nm bx ps ++ r) := e2
        rw [ed] at e2
        rw [bindT_of (dueW_of e2 (by rw [(N.n _ (List.getElem_mem hv)).1, hd1]; rfl))]
        dsimp only
        rw [hd1, pm]
        rfl
      · rw [if_neg (by omega), if_neg (by omega), if_neg (by omega)] at et
        rw [if_neg (by omega), if_neg (by omega), if_neg (by omega), if_neg (by omega), if_pos h5, pm]
        subst et
        rfl
      · rw [if_neg (by omega), if_neg (by omega), if_neg (by omega)] at et
        rw [if_neg (by omega), if_neg (by omega), if_neg (by omega), if_neg (by omega), if_neg (by omega), pm]
        subst et
        rfl
    rw [bindT_of own]
    dsimp only
    have e3 := dropw_app e2
    have hps := parts_words (f := nodeW ws hd bx f) (fun p hm k r hk => node_words N D hb hn (hp p hm) (fun x hxx => hx x (by
      show x ∈ kind :: (ns ++ encs ps)
      refine List.mem_cons_of_mem _ (List.mem_append_right _ ?_)
      exact encs_in hm hxx)) hk) e3 ps.length (Nat.le_refl _)
    rw [List.take_length] at hps
    rw [Int.toNat_natCast, bindT_of hps]
    show Except.ok (kind :: ns ++ encs ps, k + 1 + tl.length + (wordsNs nm bx ps).length) = .ok (kind :: (ns ++ encs ps), k + (headW nm bx kind (ns.headD 0) ++ wordsNs nm bx ps).length)
    rw [eh, lenE, List.length_cons]
    congr 2
    omega
where
  encs_in {l : List Nd} {n : Nd} {x : Int} (h : n ∈ l) (hx : x ∈ enc n) : x ∈ encs l := by
    induction l with
    | nil => cases h
    | cons a l ih =>
      show x ∈ enc a ++ encs l
      rcases List.mem_cons.mp h with e | e
      · rw [← e]; exact List.mem_append_left _ hx
      · exact List.mem_append_right _ (ih e)
/-! #### a whole program -/
def funW (all : Nms) (h : Int × Int) (n : Str × List Str) (b : Nd) : List Str := ("fun" : Str) :: n.1 :: (n.2.take h.1.toNat ++ ("with" : Str) :: (n.2.drop h.1.toNat ++ ("is" : Str) :: wordsN all n.2 b))
def progW (all : Nms) : List (Int × Int) → Nms → List Nd → List Str
  | h :: hs, n :: ns, b :: bs => funW all h n b ++ progW all hs ns bs
  | _, _, _ => []
/-- what goes together -/
inductive Al : List (Int × Int) → Nms → List Nd → Prop where
  | nil : Al [] [] []
  | cons {h : Int × Int} {n : Str × List Str} {b : Nd} {hs ns bs} : Al hs ns bs → Al (h :: hs) (n :: ns) (b :: bs)
theorem Al.of : ∀ {hs : List (Int × Int)} {ns : Nms} {bs : List Nd}, ns.length = hs.length → bs.length = hs.length → Al hs ns bs
  | [], [], [], _, _ => .nil
  | _ :: _, _ :: _, _ :: _, h1, h2 => .cons (Al.of (by simpa using h1) (by simpa using h2))
  | [], _ :: _, _, h, _ => by cases h
  | [], [], _ :: _, _, h => by cases h
  | _ :: _, [], _, h, _ => by cases h
  | _ :: _, _ :: _, [], _, h => by cases h
theorem name_ne {w : Str} (h : isName w = true) : w ≠ ("fun" : Str) ∧ w ≠ ("with" : Str) ∧ w ≠ ("is" : Str) := by
  have := (isName_parts h).1
  simp only [List.mem_cons, List.not_mem_nil, or_false, not_or] at this
  exact this
theorem num_ne {w : Str} (h : isNum w = true) : w ≠ ("fun" : Str) ∧ w ≠ ("with" : Str) := by
  obtain ⟨a, b, c⟩ := num_words
  exact ⟨fun z => (by rw [z, a] at h; cases h), fun z => (by rw [z, b] at h; cases h)⟩
/-- a body's words are no fun -/
theorem words_ne {nm : Nms} {hs : List (Int × Int)} {bx : List Str} (N : NmOK nm hs) (hb : ∀ w ∈ bx, isName w = true) : ∀ {f : Nat} {t : Nd}, OkN hs (bx.length : Int) f t → (∀ x ∈ enc t, x.natAbs < 10 ^ 60) → wordsN nm bx t ≠ [] ∧ ∀ w ∈ wordsN nm bx t, w ≠ ("fun" : Str)
  | 0, .mk _ _ _ _, h, _ => h.elim
  | f + 1, .mk kind pl ns ps, h, hx => by
    obtain ⟨h0, h1, ho, hp⟩ := h
    have hx0 : ∀ x ∈ ns, x.natAbs < 10 ^ 60 := fun x hxx => hx x (by show x ∈ kind :: (ns ++ encs ps); simp [hxx])
    have bxn : ∀ v : Int, 0 ≤ v → v < bx.length → bx.getD v.toNat "" ≠ ("fun" : Str) := fun v v0 v1 => by
      have hv : v.toNat < bx.length := by omega
      rw [getD_of (List.getElem?_eq_getElem hv)]
      exact (name_ne (hb _ (List.getElem_mem hv))).1
    refine ⟨fun z => ?_, fun w hw => ?_⟩
    · have := List.append_eq_nil_iff.mp (show headW nm bx kind (ns.headD 0) ++ wordsNs nm bx ps = [] from z)
      have e := this.1
      unfold headW at e
      repeat' split at e
      all_goals cases e
    · rcases List.mem_append.mp (show w ∈ headW nm bx kind (ns.headD 0) ++ wordsNs nm bx ps from hw) with z | z
      · unfold headW at z
        by_cases k0 : kind = 0
        · rw [if_pos k0] at z
          rcases ho with ⟨_, pm, v, rfl⟩ | ⟨⟨h, _⟩ | ⟨h, _⟩, _⟩ | ⟨h, _⟩ | ⟨h, _⟩ | ⟨h, _⟩ | ⟨h, _⟩ | ⟨h, _⟩ <;> first | (exfalso; omega) | skip
          rw [List.mem_singleton.mp z]
          exact (num_ne (isNum_str (hx0 v (List.mem_singleton.mpr rfl))).1).1
        rw [if_neg k0] at z
        by_cases k1 : kind = 1
        · rw [if_pos k1] at z
          rcases ho with ⟨h, _⟩ | ⟨_, v, rfl, v0, v1⟩ | ⟨h, _⟩ | ⟨h, _⟩ | ⟨h, _⟩ | ⟨h, _⟩ | ⟨h, _⟩ <;> first | (exfalso; omega) | skip
          rw [List.mem_singleton.mp z]
          exact bxn v v0 v1
        rw [if_neg k1] at z
        rcases List.mem_cons.mp z with z | z
        · rw [z]; exact (wordK_is (by omega) h1).2.2.1
        by_cases k2 : kind = 2
        · rw [if_pos k2] at z
          rcases ho with ⟨h, _⟩ | ⟨_, v, rfl, v0, v1⟩ | ⟨h, _⟩ | ⟨h, _⟩ | ⟨h, _⟩ | ⟨h, _⟩ | ⟨h, _⟩ <;> first | (exfalso; omega) | skip
          rw [List.mem_singleton.mp z]
          exact bxn v v0 v1
        rw [if_neg k2] at z
        by_cases k3 : kind = 3 ∨ kind = 4
        · rw [if_pos k3] at z
          have : ∃ v : Int, ns = [v] := by
            rcases ho with ⟨h, _⟩ | ⟨h, _⟩ | ⟨_, _, _, h⟩ | ⟨_, v, h, _⟩ | ⟨h, _⟩ | ⟨h, _⟩ | ⟨h, _⟩ <;> first | exact ⟨_, h⟩ | (exfalso; omega)
          obtain ⟨v, rfl⟩ := this
          rw [List.mem_singleton.mp z]
          exact (num_ne (isNum_str (hx0 v (List.mem_singleton.mpr rfl))).1).1
        rw [if_neg k3] at z
        by_cases k6 : kind = 6
        · rw [if_pos k6] at z
          rcases ho with ⟨h, _⟩ | ⟨h, _⟩ | ⟨h, _⟩ | ⟨h, _⟩ | ⟨_, v, h, rfl, ehs, _⟩ | ⟨h, _⟩ | ⟨h, _⟩ <;> first | (exfalso; omega) | skip
          have hv : v < nm.length := by rw [N.l]; exact (List.getElem?_eq_some_iff.mp ehs).1
          have ed : nm.getD ((v : Int)).toNat ("", []) = nm[v] := by rw [Int.toNat_natCast]; exact getD_of (List.getElem?_eq_getElem hv)
          have z := List.mem_singleton.mp z
          rw [show ([(v : Int)] : List Int).headD 0 = (v : Int) from rfl, ed] at z
          rw [z]
          exact (name_ne (N.n _ (List.getElem_mem hv)).1).1
        · rw [if_neg k6] at z; cases z
      · exact mem_words (P := fun w => w ≠ ("fun" : Str)) (fun p hm w hw => (words_ne N hb (hp p hm) (fun x hxx => hx x (by
          show x ∈ kind :: (ns ++ encs ps)
          exact List.mem_cons_of_mem _ (List.mem_append_right _ (node_words.encs_in hm hxx))))).2 w hw) z
where
  mem_words {nm : Nms} {bx : List Str} {w : Str} {P : Str → Prop} : ∀ {l : List Nd}, (∀ p ∈ l, ∀ w ∈ wordsN nm bx p, P w) → w ∈ wordsNs nm bx l → P w
    | [], _, h => by cases h
    | a :: l, hp, h => by
      rcases List.mem_append.mp (show w ∈ wordsN nm bx a ++ wordsNs nm bx l from h) with z | z
      · exact hp a List.mem_cons_self w z
      · exact mem_words (fun p hm => hp p (List.mem_cons_of_mem _ hm)) z
/-- programs as they must be -/
structure PrgOK (nm : Nms) (hs : List (Int × Int)) (bs : List Nd) : Prop where
  n : NmOK nm hs
  h : HeadsOK hs
  l : bs.length = hs.length
  o : ∀ (i : Nat) (h : Int × Int) (b : Nd), hs[i]? = some h → bs[i]? = some b → OkN hs h.2 10 b
  s : ∀ b ∈ bs, ∀ x ∈ enc b, x.natAbs < 10 ^ 60
theorem headsT_skip {ws : List Str} {k : Nat} : ∀ {m : Nat}, k ≤ m → (∀ j, k ≤ j → j < m → ws[j]? ≠ some ("fun" : Str)) → headsT ws m = headsT ws k
  | 0, h, _ => by rw [Nat.le_zero.mp h]
  | m + 1, h, hj => by
    by_cases c : k = m + 1
    · rw [c]
    · rw [← headsT_skip (m := m) (by omega) fun j a b => hj j a (by omega)]
      show (if ws[m]? = some ("fun" : Str) then _ else headsT ws m) = _
      rw [if_neg (hj m (by omega) (by omega))]
theorem endW_run {ws : List Str} {r : List Str} : ∀ {X : List Str} {f k : Nat}, ws.drop k = X ++ ("with" : Str) :: r → (∀ x ∈ X, x ≠ ("with" : Str)) → X.length ≤ f → endW ws f k = k + X.length
  | [], f, k, h, _, _ => endW_stop ws (fun z => z.2 (atw_drop h).1) f
  | x :: X, 0, k, h, hx, hf => by simp at hf
  | x :: X, f + 1, k, h, hx, hf => by
    obtain ⟨a, b⟩ := atw_drop h
    unfold endW
    rw [if_pos ⟨(List.getElem?_eq_some_iff.mp a).1, by rw [a]; exact fun z => hx x List.mem_cons_self (Option.some.inj z)⟩]
    rw [endW_run (f := f) b (fun y hy => hx y (List.mem_cons_of_mem _ hy)) (by simpa using hf), List.length_cons]
    omega
def entries : Nat → List (Int × Int) → Nms → Hds
  | i, h :: hs, n :: ns => (n.1, ((i : Int), h.1)) :: entries (i + 1) hs ns
  | _, _, _ => []
theorem hdOf_none {w : Str} {hd : Hds} (h : w ∉ hd.map (·.1)) : hdOf hd w = none := by
  induction hd with
  | nil => rfl
  | cons a hd ih =>
    obtain ⟨x, m⟩ := a
    unfold hdOf
    rw [List.lookup_cons, show (w == x) = false by simpa using fun z => h (by rw [z]; exact List.mem_cons_self)]
    exact ih fun z => h (List.mem_cons_of_mem _ z)
theorem hdOf_mem {w : Str} {m : Int × Int} : ∀ {hd : Hds}, (hd.map (·.1)).Nodup → (w, m) ∈ hd → hdOf hd w = some m
  | (x, v) :: hd, hn, h => by
    unfold hdOf
    rw [List.lookup_cons]
    rcases List.mem_cons.mp h with e | e
    · cases e
      rw [show (w == w) = true by simp]
    · have hx : w ≠ x := fun z => by
        have := (List.nodup_cons.mp hn).1
        exact this (by rw [← z]; exact List.mem_map.mpr ⟨_, e, rfl⟩)
      rw [show (w == x) = false by simpa using hx]
      exact hdOf_mem (List.nodup_cons.mp hn).2 e
theorem entries_map : ∀ {i : Nat} {hs : List (Int × Int)} {ns : Nms}, ns.length = hs.length → (entries i hs ns).map (·.1) = ns.map (·.1)
  | i, [], [], _ => rfl
  | i, h :: hs, n :: ns, e => by show n.1 :: (entries (i + 1) hs ns).map (·.1) = _; rw [entries_map (by simpa using e)]; rfl
  | _, [], _ :: _, h => by cases h
  | _, _ :: _, [], h => by cases h
theorem entries_mem : ∀ {i j : Nat} {hs : List (Int × Int)} {ns : Nms} {h : Int × Int} {n : Str × List Str}, hs[j]? = some h → ns[j]? = some n → (n.1, (((i + j : Nat) : Int), h.1)) ∈ entries i hs ns
  | i, 0, h :: hs, n :: ns, _, _, e1, e2 => by cases e1; cases e2; exact List.mem_cons_self
  | i, j + 1, h :: hs, n :: ns, h', n', e1, e2 => by
    have := entries_mem (i := i + 1) (j := j) (hs := hs) (ns := ns) (by simpa using e1) (by simpa using e2)
    rw [show i + (j + 1) = i + 1 + j by omega]
    exact List.mem_cons_of_mem _ this
/-- the function's head and the rest of it -/
theorem fun_ne {all : Nms} {hs : List (Int × Int)} {h : Int × Int} {n : Str × List Str} {b : Nd} (N : NmOK all hs) (hn : isName n.1 = true) (hb : ∀ w ∈ n.2, isName w = true) (hl : (n.2.length : Int) = h.2) (ho : OkN hs h.2 10 b) (hs : ∀ x ∈ enc b, x.natAbs < 10 ^ 60) :
    ∀ w ∈ (funW all h n b).tail, w ≠ ("fun" : Str) := by
  rw [← hl] at ho
  intro w hw
  rcases List.mem_cons.mp (show w ∈ n.1 :: (n.2.take h.1.toNat ++ ("with" : Str) :: (n.2.drop h.1.toNat ++ ("is" : Str) :: wordsN all n.2 b)) from hw) with z | z
  · rw [z]; exact (name_ne hn).1
  rcases List.mem_append.mp z with z | z
  · exact (name_ne (hb w (List.mem_of_mem_take z))).1
  rcases List.mem_cons.mp z with z | z
  · rw [z]; decide +kernel
  rcases List.mem_append.mp z with z | z
  · exact (name_ne (hb w (List.mem_of_mem_drop z))).1
  rcases List.mem_cons.mp z with z | z
  · rw [z]; decide +kernel
  · exact (words_ne N hb ho hs).2 w z
theorem heads_prog {ws : List Str} {all : Nms} {HS : List (Int × Int)} (N : NmOK all HS) : ∀ {hs : List (Int × Int)} {ns : Nms} {bs : List Nd}, Al hs ns bs → (∀ n ∈ ns, isName n.1 = true ∧ ∀ w ∈ n.2, isName w = true) → (ns.map (·.1)).Nodup →
    (∀ (i : Nat) (h : Int × Int) (n : Str × List Str) (b : Nd), hs[i]? = some h → ns[i]? = some n → bs[i]? = some b → (n.2.length : Int) = h.2 ∧ 0 ≤ h.1 ∧ h.1 ≤ h.2 ∧ OkN HS h.2 10 b ∧ ∀ x ∈ enc b, x.natAbs < 10 ^ 60) →
    ∀ (k : Nat) (acc : Hds), ws.drop k = progW all hs ns bs → headsT ws k = (acc, (acc.length : Int)) → (∀ n ∈ ns, n.1 ∉ acc.map (·.1)) → headsT ws (k + (progW all hs ns bs).length) = (acc ++ entries acc.length hs ns, ((acc.length + hs.length : Nat) : Int))
  | [], [], [], .nil, _, _, _, k, acc, _, e2, _ => by simpa [progW, entries] using e2
  | h :: hs, n :: ns, b :: bs, .cons A, hn, hd, hb, k, acc, e1, e2, hacc => by
    obtain ⟨b1, b2, b3, b4, b5⟩ := hb 0 h n b rfl rfl rfl
    obtain ⟨n1, n2⟩ := hn n List.mem_cons_self
    have ne := fun_ne (all := all) N n1 n2 b1 b4 b5
    have e1' : ws.drop k = funW all h n b ++ progW all hs ns bs := e1
    have hk : ws[k]? = some ("fun" : Str) := (atw_drop (show ws.drop k = ("fun" : Str) :: _ from e1')).1
    have d1 := (atw_drop (show ws.drop k = ("fun" : Str) :: (n.1 :: (n.2.take h.1.toNat ++ ("with" : Str) :: (n.2.drop h.1.toNat ++ ("is" : Str) :: wordsN all n.2 b)) ++ progW all hs ns bs) from e1')).2
    have d2 := (atw_drop (show ws.drop (k + 1) = n.1 :: ((n.2.take h.1.toNat ++ ("with" : Str) :: (n.2.drop h.1.toNat ++ ("is" : Str) :: wordsN all n.2 b)) ++ progW all hs ns bs) from d1))
    have lk : k < ws.length := (List.getElem?_eq_some_iff.mp hk).1
    have step : headsT ws (k + 1) = (acc ++ [(n.1, ((acc.length : Int), h.1))], ((acc.length + 1 : Nat) : Int)) := by
      unfold headsT
      rw [if_pos hk, e2]
      dsimp only
      rw [getD_of d2.1, hdOf_none (hacc n List.mem_cons_self), if_neg (by decide)]
      have en := endW_run (f := ws.length) (X := n.2.take h.1.toNat) (r := (n.2.drop h.1.toNat ++ ("is" : Str) :: wordsN all n.2 b) ++ progW all hs ns bs) (k := k + 2) (by rw [d2.2]; simp) (fun x hx => (name_ne (n2 x (List.mem_of_mem_take hx))).2.1) (by
        have := congrArg List.length d2.2
        simp only [List.length_drop, List.length_append, List.length_cons] at this
        omega)
      rw [en, List.length_take, Nat.min_eq_left (by omega)]
      have : ((k + 2 + h.1.toNat : Nat) : Int) - k - 2 = h.1 := by omega
      rw [this]
      rfl
    have sk : headsT ws (k + (funW all h n b).length) = headsT ws (k + 1) := by
      refine headsT_skip (by show k + 1 ≤ k + (_ :: _).length; rw [List.length_cons]; omega) fun j j1 j2 z => ?_
      have hx : (ws.drop k)[j - k]? = some ("fun" : Str) := by rw [List.getElem?_drop, show k + (j - k) = j by omega]; exact z
      rw [e1', List.getElem?_append_left (by omega)] at hx
      have : (funW all h n b).tail[j - k - 1]? = some ("fun" : Str) := by
        show (_ : List Str)[j - k - 1]? = _
        rw [List.getElem?_tail, show j - k - 1 + 1 = j - k by omega]; exact hx
      exact ne _ (List.mem_of_getElem? this) rfl
    have al : (acc ++ [(n.1, ((acc.length : Int), h.1))]).length = acc.length + 1 := by rw [List.length_append]; rfl
    have ih := heads_prog N A (fun m hm => hn m (List.mem_cons_of_mem _ hm)) (List.nodup_cons.mp hd).2 (fun i h n b x y z => hb (i + 1) h n b (by simpa using x) (by simpa using y) (by simpa using z)) (k + (funW all h n b).length) _ (dropw_app e1') (by rw [sk, step, al]) (fun m hm z => by
      rw [List.map_append] at z
      rcases List.mem_append.mp z with z | z
      · exact hacc m (List.mem_cons_of_mem _ hm) z
      · have := List.mem_singleton.mp z
        exact (List.nodup_cons.mp hd).1 (List.mem_map.mpr ⟨m, hm, this⟩))
    rw [al] at ih
    show headsT ws (k + (funW all h n b ++ progW all hs ns bs).length) = _
    rw [List.length_append, ← Nat.add_assoc, ih, List.append_assoc]
    show (acc ++ (_ :: entries (acc.length + 1) hs ns), _) = (acc ++ (_ :: entries (acc.length + 1) hs ns), _)
    rw [List.length_cons, show acc.length + 1 + hs.length = acc.length + (hs.length + 1) by omega]
theorem last_prog {all : Nms} {HS : List (Int × Int)} (N : NmOK all HS) : ∀ {hs : List (Int × Int)} {ns : Nms} {bs : List Nd}, Al hs ns bs → hs ≠ [] → (∀ n ∈ ns, isName n.1 = true ∧ ∀ w ∈ n.2, isName w = true) →
    (∀ (i : Nat) (h : Int × Int) (n : Str × List Str) (b : Nd), hs[i]? = some h → ns[i]? = some n → bs[i]? = some b → (n.2.length : Int) = h.2 ∧ OkN HS h.2 10 b ∧ ∀ x ∈ enc b, x.natAbs < 10 ^ 60) → (progW all hs ns bs).getLast? ≠ some ("fun" : Str)
  | [], _, _, _, h, _, _ => absurd rfl h
  | [h], [n], [b], .cons .nil, _, hn, hb => by
    obtain ⟨b1, b4, b5⟩ := hb 0 h n b rfl rfl rfl
    obtain ⟨n1, n2⟩ := hn n List.mem_cons_self
    have ne := fun_ne (all := all) N n1 n2 b1 b4 b5
    intro z
    have z : (funW all h n b ++ []).getLast? = some ("fun" : Str) := z
    rw [List.append_nil] at z
    have e : funW all h n b = ("fun" : Str) :: (funW all h n b).tail := rfl
    have e2 : (funW all h n b).tail = n.1 :: (funW all h n b).tail.tail := rfl
    rw [e, e2, List.getLast?_cons_cons] at z
    exact ne _ (by rw [e2]; exact List.mem_of_getLast? z) rfl
  | h :: g :: hs, n :: m :: ns, b :: c :: bs, .cons A, _, hn, hb => by
    have ih := last_prog N A (by simp) (fun m hm => hn m (List.mem_cons_of_mem _ hm)) (fun i h n b x y z => hb (i + 1) h n b (by simpa using x) (by simpa using y) (by simpa using z))
    show (funW all h n b ++ progW all (g :: hs) (m :: ns) (c :: bs)).getLast? ≠ _
    rw [List.getLast?_append]
    cases q : (progW all (g :: hs) (m :: ns) (c :: bs)).getLast? with
    | none => exact absurd (List.getLast?_eq_none_iff.mp q) (by show (("fun" : Str) :: _) ++ _ ≠ []; simp)
    | some w => rw [q] at ih; exact ih
theorem PrgOK.al {nm : Nms} {hs : List (Int × Int)} {bs : List Nd} (P : PrgOK nm hs bs) : Al hs nm bs := Al.of P.n.l P.l
theorem PrgOK.all {nm : Nms} {hs : List (Int × Int)} {bs : List Nd} (P : PrgOK nm hs bs) (i : Nat) (h : Int × Int) (n : Str × List Str) (b : Nd) (e1 : hs[i]? = some h) (e2 : nm[i]? = some n) (e3 : bs[i]? = some b) :
    (n.2.length : Int) = h.2 ∧ 0 ≤ h.1 ∧ h.1 ≤ h.2 ∧ OkN hs h.2 10 b ∧ ∀ x ∈ enc b, x.natAbs < 10 ^ 60 := by
  obtain ⟨a0, a1, a2, a3⟩ := P.h.2.2 i h e1
  exact ⟨P.n.b i n h e2 e1, a0, a2, P.o i h b e1 e3, P.s b (List.mem_of_getElem? e3)⟩
/-- the table of heads of a program -/
theorem hd_prog {nm : Nms} {hs : List (Int × Int)} {bs : List Nd} (P : PrgOK nm hs bs) : HdOK (headsW (progW nm hs nm bs)) nm hs := by
  have nn := P.n.n
  have e := heads_prog (ws := progW nm hs nm bs) P.n P.al (fun n hn => ⟨(nn n hn).1, (nn n hn).2.1⟩) P.n.d P.all 0 [] rfl rfl (fun n _ z => by cases z)
  rw [Nat.zero_add, List.nil_append] at e
  have hne : hs ≠ [] := fun z => by have := P.h.1; rw [z] at this; exact absurd this (by decide)
  have la := last_prog P.n P.al hne (fun n hn => ⟨(nn n hn).1, (nn n hn).2.1⟩) (fun i h n b x y z => by obtain ⟨a, _, _, c⟩ := P.all i h n b x y z; exact ⟨a, c⟩)
  have sk := headsT_skip (ws := progW nm hs nm bs) (k := (progW nm hs nm bs).length - 1) (m := (progW nm hs nm bs).length) (by omega) fun j j1 j2 z => by
    have : j = (progW nm hs nm bs).length - 1 := by omega
    rw [this, ← List.getLast?_eq_getElem?] at z
    exact la z
  intro i x h e1 e2
  unfold headsW
  rw [← sk, e]
  refine hdOf_mem (by rw [entries_map P.n.l]; exact P.n.d) ?_
  have := entries_mem (i := 0) e2 e1
  rw [Nat.zero_add] at this
  exact this
theorem boxes_run {ws : List Str} {en : Str} {m : Int} {r : List Str} (he : isName en = false) : ∀ {X bx : List Str} {f k : Nat}, ws.drop k = X ++ en :: r → (∀ x ∈ X, isName x = true) → (bx ++ X).Nodup → ((bx ++ X).length : Int) ≤ m → X.length < f → boxesW ws en m f bx k = .ok (bx ++ X, k + X.length + 1)
  | [], bx, 0, k, _, _, _, _, hf => by simp at hf
  | [], bx, f + 1, k, h, _, _, _, _ => by
    unfold boxesW
    rw [if_pos (atw_drop h).1, List.append_nil]; rfl
  | x :: X, bx, 0, k, _, _, _, _, hf => by simp at hf
  | x :: X, bx, f + 1, k, h, hx, hd, hm, hf => by
    obtain ⟨a, b⟩ := atw_drop (show ws.drop k = x :: (X ++ en :: r) from h)
    have hn := hx x List.mem_cons_self
    unfold boxesW
    rw [if_neg (by rw [a]; intro z; rw [Option.some.inj z, he] at hn; cases hn)]
    rw [if_neg (by rw [List.length_append, List.length_cons] at hm; omega)]
    have nin : x ∉ bx := fun z => (List.nodup_append.mp hd).2.2 x z x List.mem_cons_self rfl
    rw [bindT_of (dueW_of (show ws.drop k = x :: (X ++ en :: r) from h) (by rw [hn, decide_eq_false nin]; rfl))]
    dsimp only
    have e : (bx ++ [x]) ++ X = bx ++ x :: X := by simp
    rw [boxes_run he (X := X) (bx := bx ++ [x]) b (fun y hy => hx y (List.mem_cons_of_mem _ hy)) (by rw [e]; exact hd) (by rw [e]; exact hm) (by simpa using hf), e, List.length_cons]
    congr 2
    omega
theorem with_no : isName "with" = false ∧ isName "is" = false := by decide +kernel
theorem loop_prog {ws : List Str} {hd : Hds} {all : Nms} {HS : List (Int × Int)} (N : NmOK all HS) (D : HdOK hd all HS) : ∀ {hs : List (Int × Int)} {ns : Nms} {bs : List Nd}, Al hs ns bs → (∀ n ∈ ns, isName n.1 = true ∧ (∀ w ∈ n.2, isName w = true) ∧ n.2.Nodup) →
    ∀ (P : Prg), (P.1 = [] → hs ≠ []) → P.1.length + hs.length ≤ 16 → ((P.1.map (·.1)) ++ ns.map (·.1)).Nodup →
    (∀ (i : Nat) (h : Int × Int) (n : Str × List Str) (b : Nd), hs[i]? = some h → ns[i]? = some n → bs[i]? = some b → (n.2.length : Int) = h.2 ∧ 0 ≤ h.1 ∧ h.1 ≤ h.2 ∧ h.1 ≤ (if P.1.length + i = 0 then 0 else 4) ∧ h.2 ≤ 12 ∧ OkN HS h.2 10 b ∧ ∀ x ∈ enc b, x.natAbs < 10 ^ 60) →
    ws.drop P.2.2.2 = progW all hs ns bs → ∀ f, hs.length < f → P.2.2.2 ≤ ws.length → loopW ws hd f P = .ok (P.1 ++ ns, P.2.1 ++ flat hs, P.2.2.1 ++ encs bs, ws.length)
  | [], [], [], .nil, _, P, hP, _, _, _, e, f, hf, hle => by
    obtain ⟨g, rfl⟩ : ∃ g, f = g + 1 := ⟨f - 1, by omega⟩
    have hd0 : ws.drop P.2.2.2 = [] := e
    have : ws.length ≤ P.2.2.2 := List.drop_eq_nil_iff.mp hd0
    have e : P.2.2.2 = ws.length := by omega
    have hne : P.1 ≠ [] := fun z => hP z rfl
    show (if P.1 = [] ∨ P.2.2.2 < ws.length then _ else Except.ok P) = _
    rw [if_neg (by rintro (z | z); exact hne z; omega)]
    obtain ⟨p1, p2, p3, p4⟩ := P
    dsimp only at e ⊢
    rw [e]
    simp [flat, encs]
  | h :: hs, n :: ns, b :: bs, .cons A, hn, P, hP, h16, hdup, hb, e, f, hf, hle => by
    obtain ⟨g, rfl⟩ : ∃ g, f = g + 1 := ⟨f - 1, by omega⟩
    obtain ⟨b1, b2, b3, b6, b7, b4, b5⟩ := hb 0 h n b rfl rfl rfl
    obtain ⟨n1, n2, n3⟩ := hn n List.mem_cons_self
    have e0 : ws.drop P.2.2.2 = ("fun" : Str) :: (n.1 :: ((n.2.take h.1.toNat ++ ("with" : Str) :: (n.2.drop h.1.toNat ++ ("is" : Str) :: wordsN all n.2 b)) ++ progW all hs ns bs)) := e
    obtain ⟨f0, e1⟩ := atw_drop e0
    have e2 := (atw_drop e1).2
    have lt := (List.getElem?_eq_some_iff.mp f0).1
    have lenp : (n.2.take h.1.toNat).length = h.1.toNat := by rw [List.length_take]; omega
    rw [List.append_assoc] at e2
    have e2' : ws.drop (P.2.2.2 + 1 + 1) = n.2.take h.1.toNat ++ ("with" : Str) :: (n.2.drop h.1.toNat ++ ("is" : Str) :: (wordsN all n.2 b ++ progW all hs ns bs)) := by rw [e2]; simp
    have l2 := congrArg List.length e2'
    simp only [List.length_drop, List.length_append, List.length_cons] at l2
    have dn : n.1 ∉ P.1.map (·.1) := fun z => (List.nodup_append.mp hdup).2.2 n.1 z n.1 List.mem_cons_self rfl
    have hm : ((if P.1 = [] then 0 else 4 : Int)) = (if P.1.length + 0 = 0 then 0 else 4) := by
      by_cases c : P.1 = []
      · rw [c]; rfl
      · rw [if_neg c, if_neg]; exact fun z => c (List.eq_nil_of_length_eq_zero (by omega))
    have r3 := boxes_run with_no.1 (m := (if P.1 = [] then 0 else 4 : Int)) (bx := []) (f := ws.length + 1) e2' (fun x hx => n2 x (List.mem_of_mem_take hx)) (by rw [List.nil_append]; exact n3.sublist (List.take_sublist _ _)) (by rw [List.nil_append, lenp, hm]; omega) (by omega)
    rw [List.nil_append] at r3
    have e3 := dropw_app e2'
    have e3' := (atw_drop e3).2
    have r4 := boxes_run with_no.2 (m := 12) (bx := n.2.take h.1.toNat) (f := ws.length + 1) (k := P.2.2.2 + 1 + 1 + (n.2.take h.1.toNat).length + 1) e3' (fun x hx => n2 x (List.mem_of_mem_drop hx)) (by rw [List.take_append_drop]; exact n3) (by rw [List.take_append_drop]; omega) (by rw [List.length_drop]; omega)
    rw [List.take_append_drop] at r4
    have e4 := (atw_drop (dropw_app e3')).2
    have r5 := node_words N D n2 n3 (by rw [b1]; exact b4) b5 e4
    have once : onceW ws hd P = .ok (P.1 ++ [(n.1, n.2)], P.2.1 ++ [h.1, h.2], P.2.2.1 ++ enc b, P.2.2.2 + 1 + 1 + (n.2.take h.1.toNat).length + 1 + (n.2.drop h.1.toNat).length + 1 + (wordsN all n.2 b).length) := by
      unfold onceW
      rw [if_neg (by rw [List.length_cons] at h16; omega), bindT_of (dueW_of e0 (by simp)), bindT_of (dueW_of e1 (by rw [n1, decide_eq_false dn]; rfl)), bindT_of r3, bindT_of r4, bindT_of r5]
      dsimp only
      rw [lenp, b1, Int.toNat_of_nonneg b2]
    show (if P.1 = [] ∨ P.2.2.2 < ws.length then bindT (onceW ws hd P) (loopW ws hd g) else Except.ok P) = _
    rw [if_pos (.inr lt), bindT_of once]
    have l4 := congrArg List.length e4
    rw [List.length_drop, List.length_append] at l4
    have ww := (words_ne N n2 (by rw [b1]; exact b4) b5).1
    have wl : 0 < (wordsN all n.2 b).length := Nat.pos_of_ne_zero fun z => ww (List.eq_nil_of_length_eq_zero z)
    have ih := loop_prog N D A (fun m hm => hn m (List.mem_cons_of_mem _ hm)) (P.1 ++ [(n.1, n.2)], P.2.1 ++ [h.1, h.2], P.2.2.1 ++ enc b, P.2.2.2 + 1 + 1 + (n.2.take h.1.toNat).length + 1 + (n.2.drop h.1.toNat).length + 1 + (wordsN all n.2 b).length)
      (fun z => by simp at z) (by rw [List.length_append]; rw [List.length_cons] at h16; show P.1.length + 1 + hs.length ≤ 16; omega) (by rw [List.map_append, List.append_assoc]; exact hdup)
      (fun i h n b x y z => by
        obtain ⟨a1, a2, a3, a4, a5⟩ := hb (i + 1) h n b (by simpa using x) (by simpa using y) (by simpa using z)
        refine ⟨a1, a2, a3, ?_, a5⟩
        rw [if_neg (by omega)] at a4
        show h.1 ≤ if (P.1 ++ [_]).length + i = 0 then 0 else 4
        rw [List.length_append, List.length_singleton, if_neg (by omega)]
        exact a4) (dropw_app e4) g (by rw [List.length_cons] at hf; omega) (by show _ + (wordsN all n.2 b).length ≤ ws.length; omega)
    rw [ih]
    simp [flat, encs]
/-- WHAT IS WRITTEN IS READ BACK -/
theorem read_prog {nm : Nms} {hs : List (Int × Int)} {bs : List Nd} (P : PrgOK nm hs bs) : readW (progW nm hs nm bs) = .ok (nm, (hs.length : Int) :: (flat hs ++ encs bs)) := by
  have hne : hs ≠ [] := fun z => by have := P.h.1; rw [z] at this; exact absurd this (by decide)
  have e := loop_prog P.n (hd_prog P) P.al P.n.n ([], [], [], 0) (fun _ => hne) (by show 0 + hs.length ≤ 16; have := P.h.2.1; omega) P.n.d (fun i h n b x y z => by
    obtain ⟨a1, a2, a3, a4, a5⟩ := P.all i h n b x y z
    obtain ⟨c0, c1, c2, c3⟩ := P.h.2.2 i h x
    refine ⟨a1, a2, a3, ?_, c3, a4, a5⟩
    show h.1 ≤ if 0 + i = 0 then 0 else 4
    by_cases q : i = 0
    · subst q; exact c1
    · rw [if_neg (by omega)]; rw [if_pos (by omega)] at c1; exact c1) rfl 18 (by have := P.h.2.1; omega) (Nat.zero_le _)
  unfold readW
  rw [bindT_of e]
  simp [P.n.l]
theorem encs_memw : ∀ {l : List Nd} {n : Nd}, n ∈ l → (enc n).length ≤ (encs l).length
  | a :: l, n, h => by
    show (enc n).length ≤ (enc a ++ encs l).length
    rw [List.length_append]
    rcases List.mem_cons.mp h with e | h
    · rw [e]; omega
    · have := encs_memw h; omega

/-! ### programs shown -/
theorem names_small {w : Str} (h : isName w = true) : w.length ≤ 8 := by have := (isName_parts h).2.2.2.1; omega
theorem log_small {v : Int} (h : v.natAbs < 10 ^ 60) : v.natAbs.log2 < 1920 := by
  by_cases c : v.natAbs = 0
  · rw [c]; decide
  · exact (Nat.log2_lt c).mpr (Nat.lt_of_lt_of_le h (by decide +kernel))
theorem str_small {v : Int} (h : v.natAbs < 10 ^ 60) : (strI v).length ≤ 61 := by
  have l := TL.numL_len (k := 60) (by decide) h
  rw [len_ls, strI_ls]
  unfold sgI
  split
  · rw [List.length_cons]; omega
  · omega
theorem wordK_small : ∀ i : _root_.Fin 18, (WD.getD i.val "").length ≤ 8 := by decide +kernel
/-- what is written of a node, in moderation -/
theorem words_small {nm : Nms} {hs : List (Int × Int)} {bx : List Str} (N : NmOK nm hs) (hb : ∀ w ∈ bx, isName w = true) : ∀ {f : Nat} {t : Nd}, OkN hs (bx.length : Int) f t → (∀ x ∈ enc t, x.natAbs < 10 ^ 60) → (wordsN nm bx t).length ≤ 2 * (enc t).length ∧ ∀ w ∈ wordsN nm bx t, w.length ≤ 61
  | 0, .mk _ _ _ _, h, _ => h.elim
  | f + 1, .mk kind pl ns ps, h, hx => by
    obtain ⟨h0, h1, ho, hp⟩ := h
    have hx0 : ∀ x ∈ ns, x.natAbs < 10 ^ 60 := fun x hxx => hx x (by show x ∈ kind :: (ns ++ encs ps); simp [hxx])
    have h00 : (ns.headD 0).natAbs < 10 ^ 60 := by
      cases ns with
      | nil => show (0 : Int).natAbs < _; decide
      | cons a r => exact hx0 a List.mem_cons_self
    have bxl : ∀ j : Nat, (bx.getD j "").length ≤ 61 := fun j => by
      rw [List.getD_eq_getElem?_getD]
      cases e : bx[j]? with
      | none => show ("" : Str).length ≤ 61; decide +kernel
      | some w => have := names_small (hb w (List.mem_of_getElem? e)); show w.length ≤ 61; omega
    have nml : ∀ j : Nat, ((nm.getD j ("", [])).1).length ≤ 61 := fun j => by
      rw [List.getD_eq_getElem?_getD]
      cases e : nm[j]? with
      | none => show ("" : Str).length ≤ 61; decide +kernel
      | some w => have := names_small (N.n w (List.mem_of_getElem? e)).1; show w.1.length ≤ 61; omega
    have hd : (headW nm bx kind (ns.headD 0)).length ≤ 2 ∧ ∀ w ∈ headW nm bx kind (ns.headD 0), w.length ≤ 61 := by
      have wk : 2 ≤ kind → (wordK kind).length ≤ 61 := fun c => by
        have := wordK_small ⟨(kind - 2).toNat, by omega⟩
        show (WD.getD (kind - 2).toNat "").length ≤ 61
        exact Nat.le_trans this (by decide)
      unfold headW
      by_cases k0 : kind = 0
      · rw [if_pos k0]; exact ⟨by show 1 ≤ 2; decide, fun w hw => by rw [List.mem_singleton.mp hw]; exact str_small h00⟩
      rw [if_neg k0]
      by_cases k1 : kind = 1
      · rw [if_pos k1]; exact ⟨by show 1 ≤ 2; decide, fun w hw => by rw [List.mem_singleton.mp hw]; exact bxl _⟩
      rw [if_neg k1]
      have one : ∀ {l : List Str}, l.length ≤ 1 → (∀ w ∈ l, w.length ≤ 61) → (wordK kind :: l).length ≤ 2 ∧ ∀ w ∈ wordK kind :: l, w.length ≤ 61 := fun {l} a b => ⟨by rw [List.length_cons]; omega, fun w hw => by
        rcases List.mem_cons.mp hw with z | z
        · rw [z]; exact wk (by omega)
        · exact b w z⟩
      split
      · exact one (by show 1 ≤ 1; decide) fun w hw => by rw [List.mem_singleton.mp hw]; exact bxl _
      split
      · exact one (by show 1 ≤ 1; decide) fun w hw => by rw [List.mem_singleton.mp hw]; exact str_small h00
      split
      · exact one (by show 1 ≤ 1; decide) fun w hw => by rw [List.mem_singleton.mp hw]; exact nml _
      · exact one (by show 0 ≤ 1; decide) fun w hw => by cases hw
    have ps2 := small_parts (nm := nm) (bx := bx) (l := ps) fun p hm => words_small N hb (hp p hm) fun x hxx => hx x (by
      show x ∈ kind :: (ns ++ encs ps)
      exact List.mem_cons_of_mem _ (List.mem_append_right _ (node_words.encs_in hm hxx)))
    have two : (headW nm bx kind (ns.headD 0)).length ≤ 2 * (1 + ns.length) := by omega
    refine ⟨?_, fun w hw => ?_⟩
    · show (headW nm bx kind (ns.headD 0) ++ wordsNs nm bx ps).length ≤ 2 * (kind :: (ns ++ encs ps)).length
      rw [List.length_append, List.length_cons, List.length_append]
      have := ps2.1
      omega
    · rcases List.mem_append.mp (show w ∈ headW nm bx kind (ns.headD 0) ++ wordsNs nm bx ps from hw) with z | z
      · exact hd.2 w z
      · exact ps2.2 w z
where
  small_parts {nm : Nms} {bx : List Str} : ∀ {l : List Nd}, (∀ p ∈ l, (wordsN nm bx p).length ≤ 2 * (enc p).length ∧ ∀ w ∈ wordsN nm bx p, w.length ≤ 61) → (wordsNs nm bx l).length ≤ 2 * (encs l).length ∧ ∀ w ∈ wordsNs nm bx l, w.length ≤ 61
    | [], _ => ⟨Nat.le_refl _, fun w hw => by cases hw⟩
    | a :: l, h => by
      obtain ⟨a1, a2⟩ := h a List.mem_cons_self
      obtain ⟨b1, b2⟩ := small_parts fun p hm => h p (List.mem_cons_of_mem _ hm)
      refine ⟨?_, fun w hw => ?_⟩
      · show (wordsN nm bx a ++ wordsNs nm bx l).length ≤ 2 * (enc a ++ encs l).length
        rw [List.length_append, List.length_append]; omega
      · rcases List.mem_append.mp (show w ∈ wordsN nm bx a ++ wordsNs nm bx l from hw) with z | z
        · exact a2 w z
        · exact b2 w z
theorem fun_small {all : Nms} {hs : List (Int × Int)} {h : Int × Int} {n : Str × List Str} {b : Nd} (N : NmOK all hs) (hn : isName n.1 = true) (hb : ∀ w ∈ n.2, isName w = true) (hl : (n.2.length : Int) = h.2) (h12 : h.2 ≤ 12) (ho : OkN hs h.2 10 b) (hx : ∀ x ∈ enc b, x.natAbs < 10 ^ 60) :
    (funW all h n b).length ≤ 16 + 2 * (enc b).length ∧ ∀ w ∈ funW all h n b, w.length ≤ 61 := by
  rw [← hl] at ho
  obtain ⟨s1, s2⟩ := words_small N hb ho hx
  have lt : n.2.length ≤ 12 := by omega
  have l1 : (n.2.take h.1.toNat).length + (n.2.drop h.1.toNat).length = n.2.length := by rw [← List.length_append, List.take_append_drop]
  have kw : ("fun" : Str).length ≤ 61 ∧ ("with" : Str).length ≤ 61 ∧ ("is" : Str).length ≤ 61 := by decide +kernel
  refine ⟨?_, fun w hw => ?_⟩
  · show (("fun" : Str) :: n.1 :: (n.2.take h.1.toNat ++ ("with" : Str) :: (n.2.drop h.1.toNat ++ ("is" : Str) :: wordsN all n.2 b))).length ≤ _
    rw [List.length_cons, List.length_cons, List.length_append, List.length_cons, List.length_append, List.length_cons]
    omega
  · rcases List.mem_cons.mp (show w ∈ ("fun" : Str) :: n.1 :: (n.2.take h.1.toNat ++ ("with" : Str) :: (n.2.drop h.1.toNat ++ ("is" : Str) :: wordsN all n.2 b)) from hw) with z | z
    · rw [z]; exact kw.1
    rcases List.mem_cons.mp z with z | z
    · rw [z]; have := names_small hn; omega
    rcases List.mem_append.mp z with z | z
    · have := names_small (hb w (List.mem_of_mem_take z)); omega
    rcases List.mem_cons.mp z with z | z
    · rw [z]; exact kw.2.1
    rcases List.mem_append.mp z with z | z
    · have := names_small (hb w (List.mem_of_mem_drop z)); omega
    rcases List.mem_cons.mp z with z | z
    · rw [z]; exact kw.2.2
    · exact s2 w z
theorem sum_len {l : List Str} {m : Nat} (h : ∀ w ∈ l, w.length ≤ m) : (l.map (·.length)).sum ≤ m * l.length := by
  induction l with
  | nil => exact Nat.zero_le _
  | cons a l ih =>
    have h1 := h a List.mem_cons_self
    have h2 := ih fun w hw => h w (List.mem_cons_of_mem _ hw)
    rw [List.map_cons, List.sum_cons, List.length_cons, Nat.mul_succ]
    omega
theorem join_le (sep : Str) (l : List Str) : (Txt.join sep l).length ≤ (l.map (·.length)).sum + l.length * sep.length := by
  show (Builtin.Str.glued sep l).length ≤ _
  rw [PySem.StrLaws.glued_eq_join]
  exact PySem.StrLaws.join_length_le sep l
def linesT (all : Nms) : List (Int × Int) → Nms → List Nd → List Str
  | h :: hs, n :: ns, b :: bs => Txt.join " " (funW all h n b) :: linesT all hs ns bs
  | _, _, _ => []
theorem linesT_len {all : Nms} : ∀ {hs : List (Int × Int)} {ns : Nms} {bs : List Nd}, Al hs ns bs → (linesT all hs ns bs).length = hs.length
  | _, _, _, .nil => rfl
  | _, _, _, .cons A => by show (_ :: linesT all _ _ _).length = _; rw [List.length_cons, linesT_len A, List.length_cons]
theorem linesT_get {all : Nms} : ∀ {hs : List (Int × Int)} {ns : Nms} {bs : List Nd} {i : Nat} {h : Int × Int} {n : Str × List Str} {b : Nd}, hs[i]? = some h → ns[i]? = some n → bs[i]? = some b → (linesT all hs ns bs)[i]? = some (Txt.join " " (funW all h n b))
  | _ :: _, _ :: _, _ :: _, 0, _, _, _, e1, e2, e3 => by cases e1; cases e2; cases e3; rfl
  | _ :: hs, _ :: ns, _ :: bs, i + 1, h, n, b, e1, e2, e3 => by
    show (_ :: linesT all hs ns bs)[i + 1]? = _
    rw [List.getElem?_cons_succ]
    exact linesT_get (by simpa using e1) (by simpa using e2) (by simpa using e3)
def showT (nm : Nms) (hs : List (Int × Int)) (bs : List Nd) : Str := Txt.join "\n" (linesT nm hs nm bs)
theorem cut_takeS (ys : List Str) (j : Nat) : cutV (ys.map V.str) none (some (j : Int)) = (ys.take j).map V.str := by
  unfold cutV
  rw [HT.sIx_none, HT.sIx_nat, List.drop_zero, Nat.sub_zero, List.length_map, List.map_take]
  rcases Nat.le_total j ys.length with c | c
  · rw [Nat.min_eq_left c]
  · rw [Nat.min_eq_right c, List.take_of_length_le (by simp), List.take_of_length_le (by simpa using c)]
theorem cut_dropS (ys : List Str) (j : Nat) : cutV (ys.map V.str) (some (j : Int)) none = (ys.drop j).map V.str := by
  unfold cutV
  rw [HT.sIx_none, HT.sIx_nat, List.length_map, List.map_drop]
  rcases Nat.le_total j ys.length with c | c
  · rw [Nat.min_eq_left c, List.take_of_length_le (by simp)]
  · rw [Nat.min_eq_right c, Nat.sub_self, List.take_zero, List.drop_eq_nil_of_le (by simpa using c)]
theorem s_cutTU {K : PySem.W.Frag} {H : Hp} {Q : VK} {a : Addr} {xs : List V} {lo hi : Option Int} (h1 : SqT K H a xs) (h : ∀ p H', Same H H' → SqT K H' p (cutV xs lo hi) → Q (.ref p) H') : rSlU K (.ref a) lo hi H Q := by
  by_cases c : HT.sIx xs.length 0 lo = 0 ∧ HT.sIx xs.length xs.length hi = xs.length
  · refine s_cutTw h1 c (h a H (Same.refl H) ?_)
    have : cutV xs lo hi = xs := by unfold cutV; rw [c.1, c.2, List.drop_zero, Nat.sub_zero, List.take_length]
    rw [this]; exact h1
  · exact s_cutT h1 c fun p hp => h p _ (same_new hp) (SqT.of upd_same)
theorem s_add_S {K : PySem.W.Frag} {H : Hp} {Q : VK} {p q : Addr} {xs ys : List V} (h1 : H p = some (.lst xs)) (h2 : H q = some (.lst ys)) (h0 : xs.length + ys.length ≤ sizeLine) (h : ∀ a H', Same H H' → H a = none → H' a = some (.lst (xs ++ ys)) → Q (.ref a) H') : rAddU K (.ref p) (.ref q) H Q :=
  s_add_l h1 h2 h0 fun a ha => h a _ (same_new ha) ha upd_same
theorem s_listof_tS {K : PySem.W.Frag} {H : Hp} {Q : VK} {p : Addr} {xs : List V} (h1 : SqT K H p xs) (h : ∀ l H', Same H H' → H l = none → H' l = some (.lst xs) → Q (.ref l) H') : rListOf K [.ref p] H Q := s_listof_t h1 fun l hl => h l _ (same_new hl) hl upd_same
theorem new_lst {H : Hp} {la : Addr} {o : HO} {P : Hp → Prop} (hla : H la = none) (h : ∀ H', Same H H' → H' la = some o → P H') : P (upd H la o) := h _ (same_new hla) upd_same
theorem lines_sum {all : Nms} : ∀ {hs : List (Int × Int)} {ns : Nms} {bs : List Nd}, Al hs ns bs → (∀ (i : Nat) (h : Int × Int) (n : Str × List Str) (b : Nd), hs[i]? = some h → ns[i]? = some n → bs[i]? = some b → (funW all h n b).length ≤ 16 + 2 * (enc b).length ∧ ∀ w ∈ funW all h n b, w.length ≤ 61) →
    ((linesT all hs ns bs).map (·.length)).sum ≤ 62 * (16 * hs.length + 2 * (encs bs).length)
  | _, _, _, .nil, _ => Nat.zero_le _
  | h :: hs, n :: ns, b :: bs, .cons A, hf => by
    have ih := lines_sum A fun i h n b x y z => hf (i + 1) h n b (by simpa using x) (by simpa using y) (by simpa using z)
    obtain ⟨f1, f2⟩ := hf 0 h n b rfl rfl rfl
    have sl := sum_len f2
    have jl := join_le " " (funW all h n b)
    rw [show (" " : Str).length = 1 by decide +kernel] at jl
    show (((Txt.join " " (funW all h n b)) :: linesT all hs ns bs).map (·.length)).sum ≤ 62 * (16 * (h :: hs).length + 2 * (enc b ++ encs bs).length)
    rw [List.map_cons, List.sum_cons, List.length_cons, List.length_append]
    omega
theorem prg_small {nm : Nms} {hs : List (Int × Int)} {bs : List Nd} (P : PrgOK nm hs bs) (i : Nat) (h : Int × Int) (n : Str × List Str) (b : Nd) (e1 : hs[i]? = some h) (e2 : nm[i]? = some n) (e3 : bs[i]? = some b) : (funW nm h n b).length ≤ 16 + 2 * (enc b).length ∧ ∀ w ∈ funW nm h n b, w.length ≤ 61 := by
  obtain ⟨a1, a2, a3, a4, a5⟩ := P.all i h n b e1 e2 e3
  obtain ⟨c0, c1, c2, c3⟩ := P.h.2.2 i h e1
  obtain ⟨n1, n2, n3⟩ := P.n.n _ (List.mem_of_getElem? e2)
  exact fun_small P.n n1 n2 a1 c3 a4 a5

/-! ### what holds of all words of a program; the words of what is shown -/
theorem words_all {P : Str → Prop} (p1 : ∀ w, isName w = true → P w) (p2 : ∀ v : Int, v.natAbs < 10 ^ 60 → P (strI v)) (p3 : ∀ k : Int, 2 ≤ k → k ≤ 19 → P (wordK k)) {nm : Nms} {hs : List (Int × Int)} {bx : List Str} (N : NmOK nm hs) (hb : ∀ w ∈ bx, isName w = true) :
    ∀ {f : Nat} {t : Nd}, OkN hs (bx.length : Int) f t → (∀ x ∈ enc t, x.natAbs < 10 ^ 60) → ∀ w ∈ wordsN nm bx t, P w
  | 0, .mk _ _ _ _, h, _ => h.elim
  | f + 1, .mk kind pl ns ps, h, hx => by
    obtain ⟨h0, h1, ho, hp⟩ := h
    have hx0 : ∀ x ∈ ns, x.natAbs < 10 ^ 60 := fun x hxx => hx x (by show x ∈ kind :: (ns ++ encs ps); simp [hxx])
    have bxn : ∀ v : Int, 0 ≤ v → v < bx.length → P (bx.getD v.toNat "") := fun v v0 v1 => by
      have hv : v.toNat < bx.length := by omega
      rw [getD_of (List.getElem?_eq_getElem hv)]
      exact p1 _ (hb _ (List.getElem_mem hv))
    intro w hw
    rcases List.mem_append.mp (show w ∈ headW nm bx kind (ns.headD 0) ++ wordsNs nm bx ps from hw) with z | z
    · unfold headW at z
      by_cases k0 : kind = 0
      · rw [if_pos k0] at z
        rcases ho with ⟨_, pm, v, rfl⟩ | ⟨⟨h, _⟩ | ⟨h, _⟩, _⟩ | ⟨h, _⟩ | ⟨h, _⟩ | ⟨h, _⟩ | ⟨h, _⟩ | ⟨h, _⟩ <;> first | (exfalso; omega) | skip
        rw [List.mem_singleton.mp z]
        exact p2 _ (hx0 v (List.mem_singleton.mpr rfl))
      rw [if_neg k0] at z
      by_cases k1 : kind = 1
      · rw [if_pos k1] at z
        rcases ho with ⟨h, _⟩ | ⟨_, v, rfl, v0, v1⟩ | ⟨h, _⟩ | ⟨h, _⟩ | ⟨h, _⟩ | ⟨h, _⟩ | ⟨h, _⟩ <;> first | (exfalso; omega) | skip
        rw [List.mem_singleton.mp z]
        exact bxn v v0 v1
      rw [if_neg k1] at z
      rcases List.mem_cons.mp z with z | z
      · rw [z]; exact p3 _ (by omega) h1
      by_cases k2 : kind = 2
      · rw [if_pos k2] at z
        rcases ho with ⟨h, _⟩ | ⟨_, v, rfl, v0, v1⟩ | ⟨h, _⟩ | ⟨h, _⟩ | ⟨h, _⟩ | ⟨h, _⟩ | ⟨h, _⟩ <;> first | (exfalso; omega) | skip
        rw [List.mem_singleton.mp z]
        exact bxn v v0 v1
      rw [if_neg k2] at z
      by_cases k3 : kind = 3 ∨ kind = 4
      · rw [if_pos k3] at z
        have : ∃ v : Int, ns = [v] := by
          rcases ho with ⟨h, _⟩ | ⟨h, _⟩ | ⟨_, _, _, h⟩ | ⟨_, v, h, _⟩ | ⟨h, _⟩ | ⟨h, _⟩ | ⟨h, _⟩ <;> first | exact ⟨_, h⟩ | (exfalso; omega)
        obtain ⟨v, rfl⟩ := this
        rw [List.mem_singleton.mp z]
        exact p2 _ (hx0 v (List.mem_singleton.mpr rfl))
      rw [if_neg k3] at z
      by_cases k6 : kind = 6
      · rw [if_pos k6] at z
        rcases ho with ⟨h, _⟩ | ⟨h, _⟩ | ⟨h, _⟩ | ⟨h, _⟩ | ⟨_, v, h, rfl, ehs, _⟩ | ⟨h, _⟩ | ⟨h, _⟩ <;> first | (exfalso; omega) | skip
        have hv : v < nm.length := by rw [N.l]; exact (List.getElem?_eq_some_iff.mp ehs).1
        have ed : nm.getD ((v : Int)).toNat ("", []) = nm[v] := by rw [Int.toNat_natCast]; exact getD_of (List.getElem?_eq_getElem hv)
        have z := List.mem_singleton.mp z
        rw [show ([(v : Int)] : List Int).headD 0 = (v : Int) from rfl, ed] at z
        rw [z]
        exact p1 _ (N.n _ (List.getElem_mem hv)).1
      · rw [if_neg k6] at z; cases z
    · exact words_ne.mem_words (P := P) (fun p hm w hw => words_all p1 p2 p3 N hb (hp p hm) (fun x hxx => hx x (by
        show x ∈ kind :: (ns ++ encs ps)
        exact List.mem_cons_of_mem _ (List.mem_append_right _ (node_words.encs_in hm hxx)))) w hw) z
theorem prog_all {P : Str → Prop} (p1 : ∀ w, isName w = true → P w) (p2 : ∀ v : Int, v.natAbs < 10 ^ 60 → P (strI v)) (p3 : ∀ k : Int, 2 ≤ k → k ≤ 19 → P (wordK k)) (p4 : P "fun" ∧ P "with" ∧ P "is") {nm : Nms} {hs : List (Int × Int)} {bs : List Nd} (O : PrgOK nm hs bs) (i : Nat) (h : Int × Int) (n : Str × List Str) (b : Nd) (e1 : hs[i]? = some h) (e2 : nm[i]? = some n) (e3 : bs[i]? = some b) :
    ∀ w ∈ funW nm h n b, P w := by
  obtain ⟨a1, a2, a3, a4, a5⟩ := O.all i h n b e1 e2 e3
  obtain ⟨n1, n2, n3⟩ := O.n.n _ (List.mem_of_getElem? e2)
  rw [← a1] at a4
  intro w hw
  rcases List.mem_cons.mp (show w ∈ ("fun" : Str) :: n.1 :: (n.2.take h.1.toNat ++ ("with" : Str) :: (n.2.drop h.1.toNat ++ ("is" : Str) :: wordsN nm n.2 b)) from hw) with z | z
  · rw [z]; exact p4.1
  rcases List.mem_cons.mp z with z | z
  · rw [z]; exact p1 _ n1
  rcases List.mem_append.mp z with z | z
  · exact p1 _ (n2 w (List.mem_of_mem_take z))
  rcases List.mem_cons.mp z with z | z
  · rw [z]; exact p4.2.1
  rcases List.mem_append.mp z with z | z
  · exact p1 _ (n2 w (List.mem_of_mem_drop z))
  rcases List.mem_cons.mp z with z | z
  · rw [z]; exact p4.2.2
  · exact words_all p1 p2 p3 O.n n2 a4 a5 w z
def Clean (w : Str) : Prop := w.cps.toList ≠ [] ∧ ∀ x ∈ w.cps.toList, 33 ≤ x ∧ x < 128
theorem Clean.b {w : Str} (h : Clean w) : ∀ x ∈ w.cps.toList, ¬ isB x := fun x hx z => by
  have := (h.2 x hx).1
  rcases z with z | z <;> omega
theorem Clean.ok {w : Str} (h : Clean w) : PyData.strOk w = true := by
  unfold PyData.strOk
  rw [Array.all_eq_true_iff_forall_mem]
  intro x hx
  have := (h.2 x (Array.mem_toList_iff.mpr hx)).2
  simp
  omega
theorem clean_name {w : Str} (h : isName w = true) : Clean w := by
  obtain ⟨_, _, a, _, c⟩ := isName_parts h
  exact ⟨a, fun x hx => by have := c x hx; omega⟩
theorem clean_num (v : Int) : Clean (strI v) := by
  unfold Clean
  rw [strI_ls]
  unfold sgI
  have d := TL.numL_digits v.natAbs
  split
  · exact ⟨by simp, fun x hx => by
      rcases List.mem_cons.mp hx with z | z
      · omega
      · have := d x z; omega⟩
  · exact ⟨TL.numL_ne _, fun x hx => by have := d x hx; omega⟩
theorem clean_all : ∀ i : _root_.Fin 18, (WD.getD i.val "").cps.toList ≠ [] ∧ ∀ x ∈ (WD.getD i.val "").cps.toList, 33 ≤ x ∧ x < 128 := by decide +kernel
theorem clean_K (k : Int) (h2 : 2 ≤ k) (h19 : k ≤ 19) : Clean (wordK k) := clean_all ⟨(k - 2).toNat, by omega⟩
theorem clean_kw : Clean "fun" ∧ Clean "with" ∧ Clean "is" := by unfold Clean; decide +kernel
theorem ws0_join {b : Nat} (hb : isB b) : ∀ ps : List Str, ws0 (Str.join ⟨#[b]⟩ ps).cps.toList = (ps.map fun p => ws0 p.cps.toList).flatten
  | [] => rfl
  | [p] => by show ws0 p.cps.toList = ws0 p.cps.toList ++ []; rw [List.append_nil]
  | p :: q :: r => by
    rw [List.map_cons, List.flatten_cons, ← ws0_join hb (q :: r), ← ws0_app hb, join_cons2, Str.cps_append, Str.cps_append, Array.toList_append, Array.toList_append, List.append_assoc]
    rfl
theorem ws0_clean : ∀ {ws : List Str}, (∀ w ∈ ws, Clean w) → (ws.map fun p => ws0 p.cps.toList).flatten = ws.map fun w => w.cps.toList
  | [], _ => rfl
  | w :: ws, h => by
    have a := h w List.mem_cons_self
    rw [List.map_cons, List.flatten_cons, ws0_one a.1 a.b, ws0_clean fun x hx => h x (List.mem_cons_of_mem _ hx)]
    rfl
theorem txt_join (sep : Str) (l : List Str) : Txt.join sep l = Str.join sep l := PySem.StrLaws.glued_eq_join sep l
theorem ws0_line {ws : List Str} (h : ∀ w ∈ ws, Clean w) : ws0 (Txt.join " " ws).cps.toList = ws.map fun w => w.cps.toList := by
  rw [txt_join, bl_is, ws0_join (.inl rfl), ws0_clean h]
theorem map_ofL (ws : List Str) : (ws.map fun w => w.cps.toList).map ofL = ws := by rw [List.map_map]; exact List.map_id ws
theorem words_line {ws : List Str} (h : ∀ w ∈ ws, Clean w) : wordsT (Txt.join " " ws) = ws := by rw [wordsT_eq, ws0_line h, map_ofL]
theorem lines_words {all : Nms} : ∀ {hs : List (Int × Int)} {ns : Nms} {bs : List Nd}, Al hs ns bs → (∀ (i : Nat) (h : Int × Int) (n : Str × List Str) (b : Nd), hs[i]? = some h → ns[i]? = some n → bs[i]? = some b → ∀ w ∈ funW all h n b, Clean w) →
    ((linesT all hs ns bs).map fun p => ws0 p.cps.toList).flatten = (progW all hs ns bs).map fun w => w.cps.toList
  | _, _, _, .nil, _ => rfl
  | h :: hs, n :: ns, b :: bs, .cons A, hf => by
    have ih := lines_words A fun i h n b x y z => hf (i + 1) h n b (by simpa using x) (by simpa using y) (by simpa using z)
    have h0 := hf 0 h n b rfl rfl rfl
    show ((Txt.join " " (funW all h n b) :: linesT all hs ns bs).map fun p => ws0 p.cps.toList).flatten = (funW all h n b ++ progW all hs ns bs).map _
    rw [List.map_cons, List.flatten_cons, ih, ws0_line h0, List.map_append]
/-- the words of what is shown -/
theorem words_show {nm : Nms} {hs : List (Int × Int)} {bs : List Nd} (P : PrgOK nm hs bs) : wordsT (showT nm hs bs) = progW nm hs nm bs := by
  unfold showT
  rw [wordsT_eq, txt_join, nl_is, ws0_join (.inr rfl), lines_words P.al (prog_all (P := Clean) (fun w h => clean_name h) (fun v _ => clean_num v) clean_K clean_kw P), map_ofL]
theorem strOk_join {sep : Str} (hs : PyData.strOk sep = true) : ∀ {l : List Str}, (∀ w ∈ l, PyData.strOk w = true) → PyData.strOk (Str.join sep l) = true
  | [], _ => by show PyData.strOk Str.empty = true; decide +kernel
  | [p], h => h p (List.mem_singleton.mpr rfl)
  | p :: q :: r, h => by
    have ih := strOk_join hs (l := q :: r) fun w hw => h w (List.mem_cons_of_mem _ hw)
    have hp := h p List.mem_cons_self
    rw [join_cons2]
    unfold PyData.strOk at *
    rw [Array.all_eq_true_iff_forall_mem] at *
    intro x hx
    rw [Str.cps_append, Str.cps_append] at hx
    rcases Array.mem_append.mp hx with z | z
    · rcases Array.mem_append.mp z with z | z
      · exact hp x z
      · exact hs x z
    · exact ih x z
theorem strOk_show {nm : Nms} {hs : List (Int × Int)} {bs : List Nd} (P : PrgOK nm hs bs) : PyData.strOk (showT nm hs bs) = true := by
  unfold showT
  rw [txt_join]
  refine strOk_join (by decide +kernel) fun w hw => ?_
  obtain ⟨i, hi⟩ := List.mem_iff_getElem?.mp hw
  have hl := (List.getElem?_eq_some_iff.mp hi).1
  rw [linesT_len P.al] at hl
  have g := linesT_get (all := nm) (List.getElem?_eq_getElem hl) (List.getElem?_eq_getElem (show i < nm.length by rw [P.n.l]; exact hl)) (List.getElem?_eq_getElem (show i < bs.length by rw [P.l]; exact hl))
  rw [g] at hi
  cases hi
  rw [txt_join]
  exact strOk_join (by decide +kernel) fun w hw => (prog_all (P := Clean) (fun w h => clean_name h) (fun v _ => clean_num v) clean_K clean_kw P i _ _ _ (List.getElem?_eq_getElem hl) (List.getElem?_eq_getElem (show i < nm.length by rw [P.n.l]; exact hl)) (List.getElem?_eq_getElem (show i < bs.length by rw [P.l]; exact hl)) w hw).ok
theorem show_len {nm : Nms} {hs : List (Int × Int)} {bs : List Nd} (P : PrgOK nm hs bs) : (showT nm hs bs).length ≤ 62 * (16 * hs.length + 2 * (encs bs).length) + hs.length := by
  have sl := lines_sum P.al (prg_small P)
  have jl := join_le "\n" (linesT nm hs nm bs)
  rw [show ("\n" : Str).length = 1 by decide +kernel, linesT_len P.al] at jl
  unfold showT
  omega
/-- names as data -/
def namesD (nm : Nms) : List PyData := nm.map fun n => .tuple [.str n.1, .tuple (n.2.map PyData.str)]
theorem dp_strs {K : PySem.W.Frag} {H : Hp} : ∀ ws : List Str, DpAll K H (ws.map V.str) (ws.map PyData.str)
  | [] => .nil
  | w :: ws => .cons (.str w) (dp_strs ws)
theorem names_dp {K : PySem.W.Frag} {H : Hp} : ∀ {nm : Nms} {vs : List V}, NamesAt H nm vs → DpAll K H vs (namesD nm)
  | [], vs, h => by rw [show vs = [] from h]; exact .nil
  | (w, bx) :: r, vs, ⟨t, tb, us, e, h1, h2, h3⟩ => by
    rw [e]
    exact .cons (.tup (SqT.of h1) (.cons (.str w) (.cons (.tup (SqT.of h2) (dp_strs bx)) .nil))) (names_dp h3)
theorem names_sh {nm : Nms} (h : ∀ x ∈ nm, isName x.1 = true ∧ (∀ w ∈ x.2, isName w = true) ∧ x.2.Nodup) : ∀ d ∈ namesD nm, Sh 2 d := fun d hd => by
  obtain ⟨x, hx, rfl⟩ := List.mem_map.mp hd
  obtain ⟨a, b, _⟩ := h x hx
  refine Sh.tup fun d hd => ?_
  simp only [List.mem_cons, List.not_mem_nil, or_false] at hd
  rcases hd with e | e <;> subst e
  · exact Sh.str (clean_name a).ok
  · refine Sh.tup fun d hd => ?_
    obtain ⟨w, hw, rfl⟩ := List.mem_map.mp hd
    exact Sh.str (clean_name (b w hw)).ok

/-! ### pens of three numbers: at most n numbers were drawn -/
def Pl (n : Int) (H : Hp) (p : Addr) : Prop := ∃ a b c : Int, 0 ≤ a ∧ 0 ≤ b ∧ (0 ≤ c ∧ c ≤ n) ∧ H p = some (.lst [.int a, .int b, .int c])
theorem Pl.le {n m : Int} {H : Hp} {p : Addr} (h : Pl n H p) (hm : n ≤ m) : Pl m H p := by
  obtain ⟨a, b, c, h1, h2, ⟨h3, h4⟩, hp⟩ := h
  exact ⟨a, b, c, h1, h2, ⟨h3, by omega⟩, hp⟩
theorem Pl.ne {n : Int} {H : Hp} {p q : Addr} (h : Pl n H p) (hq : H q = none) : q ≠ p := by
  obtain ⟨a, b, c, _, _, _, hp⟩ := h
  exact (ne_of_none hp hq).symm
theorem Pl.but {n : Int} {H H' : Hp} {p q : Addr} (h : Pl n H p) (B : But q H H') (m : p ≠ q) : Pl n H' p := by
  obtain ⟨a, b, c, h1, h2, h3, hp⟩ := h
  exact ⟨a, b, c, h1, h2, h3, B.rd m hp⟩
theorem Pl.but2 {n : Int} {H H' : Hp} {p q r : Addr} (h : Pl n H p) (B : But2 q r H H') (m : p ≠ q) (m2 : p ≠ r) : Pl n H' p := by
  obtain ⟨a, b, c, h1, h2, h3, hp⟩ := h
  exact ⟨a, b, c, h1, h2, h3, B.rd m m2 hp⟩
theorem Pl.same {n : Int} {H H' : Hp} {p : Addr} (h : Pl n H p) (S : Same H H') : Pl n H' p := by
  obtain ⟨a, b, c, h1, h2, h3, hp⟩ := h
  exact ⟨a, b, c, h1, h2, h3, S _ _ hp⟩
theorem Pl.new {n : Int} {H : Hp} {p q : Addr} {o : HO} (h : Pl n H p) (hq : H q = none) : Pl n (upd H q o) p := h.same (same_new hq)
theorem Pl.tups {n : Int} {H H' : Hp} {p : Addr} (h : Pl n H p) (B : But p H H') : TupS H H' := by
  obtain ⟨a, b, c, h1, h2, h3, hp⟩ := h
  exact TupS.but B hp fun ys e => by cases e
theorem Pl.nt {n : Int} {H : Hp} {p q : Addr} {xs : List V} (h : Pl n H p) (hq : H q = some (.tup xs)) : q ≠ p := by
  obtain ⟨a, b, c, _, _, _, hp⟩ := h
  exact ne_of hq hp (by simp)
def q_Lpen (Z : Adr) (a b : V) (H : Hp) (Q : VK) (E : XK) : Prop := ∃ (sa : Addr) (ns : List Int) (k : Int), a = .ref sa ∧ b = .int k ∧ 0 ≤ k ∧ Scr Z.K H sa ns ∧ ∀ p H', Same H H' → H p = none → Pl 0 H' p → Q (.ref p) H'
def q_Ldraw (Z : Adr) (a b : V) (H : Hp) (Q : VK) (E : XK) : Prop := ∃ (p : Addr) (m n : Int), a = .ref p ∧ b = .int m ∧ 0 < m ∧ m < 10 ^ 70 ∧ n ≤ 1000000000000 ∧ Pl n H p ∧ ∀ v H', 0 ≤ v → v < m → Pl (n + 1) H' p → But p H H' → Q (.int v) H'

/-! ### drawn programs -/
def LW : List Str := ([("fun" : Str), ("with" : Str), ("is" : Str)] : List Str) ++ WD
def q_Lwords (Z : Adr) (H : Hp) (Q : VK) (E : XK) : Prop := ∀ l H', Same H H' → H l = none → H' l = some (.lst (LW.map V.str)) → Q (.ref l) H'
theorem nodup_le {α : Type} [DecidableEq α] : ∀ {L M : List α}, L.Nodup → (∀ x ∈ L, x ∈ M) → L.length ≤ M.length
  | [], _, _, _ => Nat.zero_le _
  | a :: L, M, hn, h => by
    have ha := h a List.mem_cons_self
    have ih := nodup_le (M := M.erase a) (List.nodup_cons.mp hn).2 fun x hx => (List.mem_erase_of_ne (fun e => (List.nodup_cons.mp hn).1 (by rw [← e]; exact hx))).mpr (h x (List.mem_cons_of_mem _ hx))
    rw [List.length_erase_of_mem ha] at ih
    have : 0 < M.length := List.length_pos_of_mem ha
    rw [List.length_cons]
    omega
/-- letters -/
def Lets (l : List Nat) : Prop := ∀ c ∈ l, 97 ≤ c ∧ c ≤ 122
theorem lw_front : (LW.map fun w => w.cps.toList.dropLast).all (fun p => decide ((LW.filter fun w => decide (w.cps.toList.dropLast = p)).length ≤ 1)) = true := by decide +kernel
theorem lw_one (p : List Nat) : (LW.filter fun w => decide (w.cps.toList.dropLast = p)).length ≤ 1 := by
  by_cases h : p ∈ LW.map (fun w => w.cps.toList.dropLast)
  · exact of_decide_eq_true (List.all_eq_true.mp lw_front p h)
  · rw [List.filter_eq_nil_iff.mpr fun w hw z => h (by rw [← of_decide_eq_true z]; exact List.mem_map.mpr ⟨w, hw, rfl⟩)]
    exact Nat.zero_le _
/-- not all of the 26 last letters are barred -/
theorem letters_free (pre : List Nat) (tk : List Str) (c0 : Nat) (h : tk.length ≤ 24) (hall : ∀ j, j < 26 → ofL (pre ++ [97 + (c0 + j) % 26]) ∈ tk ++ LW) : False := by
  have hn : ((List.range 26).map fun j => ofL (pre ++ [97 + (c0 + j) % 26])).Nodup := by
    show List.Pairwise _ _
    rw [List.pairwise_map]
    refine List.Pairwise.imp_of_mem ?_ (List.pairwise_lt_range (n := 26))
    intro a b ha hb hab e
    have e2 := congrArg (fun s : Str => s.cps.toList) e
    rw [ls_ofL, ls_ofL] at e2
    have e3 := (List.append_inj' e2 rfl).2
    have e4 := List.head_eq_of_cons_eq e3
    have := List.mem_range.mp ha
    have := List.mem_range.mp hb
    omega
  have := nodup_le (M := tk ++ LW.filter fun w => decide (w.cps.toList.dropLast = pre)) hn fun x hx => by
    obtain ⟨j, hj, rfl⟩ := List.mem_map.mp hx
    rcases List.mem_append.mp (hall j (List.mem_range.mp hj)) with z | z
    · exact List.mem_append_left _ z
    · refine List.mem_append_right _ (List.mem_filter.mpr ⟨z, ?_⟩)
      rw [ls_ofL, List.dropLast_concat]
      simp
  have l1 := lw_one pre
  rw [List.length_map, List.length_range, List.length_append] at this
  omega
theorem kindO_mem : ∀ {l : List Str} {k : Int} {w : Str}, (kindO k l w).isSome = true → w ∈ l
  | [], _, _, h => by cases h
  | x :: xs, k, w, h => by
    unfold kindO at h
    by_cases c : x = w
    · rw [c]; exact List.mem_cons_self
    · rw [if_neg c] at h; exact List.mem_cons_of_mem _ (kindO_mem h)
theorem isName_of {l : List Nat} (h1 : l ≠ []) (h2 : l.length ≤ 8) (h3 : Lets l) (h4 : ofL l ∉ LW) : isName (ofL l) = true := by
  unfold isName
  have a : (ofL l) ∉ (["fun", "with", "is"] : List Str) := fun z => h4 (List.mem_append_left _ z)
  have b : (kindW (ofL l)).isSome = false := by
    cases e : (kindW (ofL l)).isSome with
    | false => rfl
    | true => exact absurd (List.mem_append_right _ (kindO_mem e)) h4
  rw [decide_eq_false a, b]
  have c : isOf (ofL l) LET 8 = true := isOf_of (by rw [ls_ofL]; exact h1) (by rw [ls_ofL]; omega) (fun x hx => by
    rw [ls_ofL] at hx
    have := h3 x hx
    have hl : LET.cps.toList = [97, 98, 99, 100, 101, 102, 103, 104, 105, 106, 107, 108, 109, 110, 111, 112, 113, 114, 115, 116, 117, 118, 119, 120, 121, 122] := by decide +kernel
    rw [hl]
    simp only [List.mem_cons, List.not_mem_nil, or_false]
    omega)
  rw [c]
  rfl
def q_Lname (Z : Adr) (a b : V) (H : Hp) (Q : VK) (E : XK) : Prop := ∃ (p lt : Addr) (tk : List Str) (n : Int), a = .ref p ∧ b = .ref lt ∧ n ≤ 100000000000 ∧ Pl n H p ∧ H lt = some (.lst (tk.map V.str)) ∧ tk.length ≤ 16 ∧ lt ≠ p ∧ ∀ w H', isName w = true → w ∉ tk → Pl (n + 10) H' p → But p H H' → Q (.str w) H'
/-- heads as drawn -/
def HdsG (H : Hp) : List (Int × Int) → Nms → List V → Prop
  | h :: hs, n :: ns, vs => ∃ t tb us, vs = .ref t :: us ∧ H t = some (.tup [.str n.1, .ref tb, .int h.1]) ∧ H tb = some (.tup (n.2.map V.str)) ∧ HdsG H hs ns us
  | [], [], vs => vs = []
  | _, _, _ => False
theorem HdsG.mono {H H' : Hp} (S : TupS H H') : ∀ {hs : List (Int × Int)} {ns : Nms} {vs : List V}, HdsG H hs ns vs → HdsG H' hs ns vs
  | [], [], _, h => h
  | _ :: _, _ :: _, _, ⟨t, tb, us, e, h1, h2, h3⟩ => ⟨t, tb, us, e, S _ _ h1, S _ _ h2, HdsG.mono S h3⟩
  | [], _ :: _, _, h => h.elim
  | _ :: _, [], _, h => h.elim
theorem HdsG.len {H : Hp} : ∀ {hs : List (Int × Int)} {ns : Nms} {vs : List V}, HdsG H hs ns vs → vs.length = hs.length ∧ ns.length = hs.length
  | [], [], _, h => by rw [show _ = [] from h]; exact ⟨rfl, rfl⟩
  | _ :: _, _ :: _, _, ⟨t, tb, us, e, _, _, h3⟩ => by rw [e, List.length_cons, List.length_cons, List.length_cons, h3.len.1, h3.len.2]; exact ⟨rfl, rfl⟩
  | [], _ :: _, _, h => h.elim
  | _ :: _, [], _, h => h.elim
theorem HdsG.get {H : Hp} : ∀ {hs : List (Int × Int)} {ns : Nms} {vs : List V} {i : Nat} {v : V}, HdsG H hs ns vs → vs[i]? = some v → ∃ (t tb : Addr) (h : Int × Int) (n : Str × List Str), v = .ref t ∧ hs[i]? = some h ∧ ns[i]? = some n ∧ H t = some (.tup [.str n.1, .ref tb, .int h.1]) ∧ H tb = some (.tup (n.2.map V.str))
  | [], [], _, _, _, h, e => by rw [show _ = [] from h] at e; simp at e
  | h :: _, n :: _, _, 0, _, ⟨t, tb, us, e0, h1, h2, _⟩, e => by rw [e0] at e; cases e; exact ⟨t, tb, h, n, rfl, rfl, rfl, h1, h2⟩
  | _ :: hs, _ :: ns, _, i + 1, _, ⟨t, tb, us, e0, _, _, h3⟩, e => by
    rw [e0] at e
    obtain ⟨t', tb', h', n', a1, a2, a3, a4⟩ := HdsG.get (hs := hs) (ns := ns) (i := i) h3 (by simpa using e)
    exact ⟨t', tb', h', n', a1, by simpa using a2, by simpa using a3, a4⟩
  | [], _ :: _, _, _, _, h, _ => h.elim
  | _ :: _, [], _, _, _, h, _ => h.elim
theorem HdsG.app {H : Hp} {h : Int × Int} {n : Str × List Str} {t tb : Addr} (h1 : H t = some (.tup [.str n.1, .ref tb, .int h.1])) (h2 : H tb = some (.tup (n.2.map V.str))) : ∀ {hs : List (Int × Int)} {ns : Nms} {vs : List V}, HdsG H hs ns vs → HdsG H (hs ++ [h]) (ns ++ [n]) (vs ++ [.ref t])
  | [], [], _, e => by rw [show _ = [] from e]; exact ⟨t, tb, [], rfl, h1, h2, rfl⟩
  | _ :: _, _ :: _, _, ⟨t', tb', us, e, g1, g2, g3⟩ => by rw [e]; exact ⟨t', tb', us ++ [.ref t], rfl, g1, g2, HdsG.app h1 h2 g3⟩
  | [], _ :: _, _, h => h.elim
  | _ :: _, [], _, h => h.elim
def q_Lheads (Z : Adr) (a b : V) (H : Hp) (Q : VK) (E : XK) : Prop := ∃ (p : Addr) (m n : Int), a = .ref p ∧ b = .int m ∧ 1 ≤ m ∧ m ≤ 16 ∧ n ≤ 10000000000 ∧ Pl n H p ∧ ∀ l vs hs nm H', But p H H' → Pl (n + 4000) H' p → H l = none → H' l = some (.lst vs) → HdsG H' hs nm vs → HeadsOK hs → NmOK nm hs → (hs.length : Int) ≤ m → Q (.ref l) H'
def q_Lnumber (Z : Adr) (a b : V) (H : Hp) (Q : VK) (E : XK) : Prop := ∃ (p : Addr) (k : Bool) (n : Int), a = .ref p ∧ b = .bl k ∧ n ≤ 100000000000 ∧ Pl n H p ∧ ∀ v H', v.natAbs < 10 ^ 60 → Pl (n + 3) H' p → But p H H' → Q (.int v) H'
def lft (x : Int) : Int := if x < 1 then 1 else x
theorem lft_pos (x : Int) : 1 ≤ lft x := by unfold lft; split <;> omega
theorem lft_le {x : Int} (h : x ≤ 100) : lft x ≤ 100 := by unfold lft; split <;> omega
def q_Lshape (Z : Adr) (n : Nat) (a b c d e : V) (H : Hp) (Q : VK) (E : XK) : Prop := ∃ (p lh tb lf : Addr) (vs : List V) (hs : List (Int × Int)) (nm : Nms) (bx : List Str) (L deep c0 : Int) (f : Nat), a = .ref p ∧ b = .ref lh ∧ c = .ref tb ∧ d = .ref lf ∧ e = .int deep ∧ deep + f = 11 ∧ 1 ≤ f ∧ f ≤ n ∧
  c0 + 8000 * f ≤ 1000000000 ∧ Pl c0 H p ∧ H lh = some (.lst vs) ∧ HdsG H hs nm vs ∧ H tb = some (.tup (bx.map V.str)) ∧ H lf = some (.lst [.int L]) ∧ p ≠ lf ∧ p ≠ lh ∧ lf ≠ lh ∧ HeadsOK hs ∧ bx.length ≤ 12 ∧ (∀ w ∈ bx, isName w = true) ∧ L ≤ 100 ∧
  ∀ (t : Nd) (L' : Int) (u lw ln : Addr) H', But2 p lf H H' → Pl (c0 + 6 * (L - L')) H' p → H' lf = some (.lst [.int L']) → H' u = some (.tup [.ref lw, .ref ln]) → H lw = none → H ln = none → H' lw = some (.lst ((wordsN nm bx t).map V.str)) → H' ln = some (.lst ((enc t).map V.int)) →
    OkN hs (bx.length : Int) f t → (∀ x ∈ enc t, x.natAbs < 10 ^ 60) → L - L' ≤ 1 + 13 * (lft L - lft L') → ((enc t).length : Int) ≤ 2 * (L - L') → ((wordsN nm bx t).length : Int) ≤ 4 * (L - L') → Q (.ref u) H'
theorem no_Lshape {Z : Adr} {a b c d e : V} {H : Hp} {Q : VK} {E : XK} : ¬ q_Lshape Z 0 a b c d e H Q E := by
  rintro ⟨p, lh, tb, lf, vs, hs, nm, bx, L, deep, c0, f, _, _, _, _, _, _, h1, h0, _⟩
  omega
/-- lines of words as they lie -/
def LinesG (H : Hp) : List (List Str) → List V → Prop
  | [], vs => vs = []
  | l :: ls, vs => ∃ a us, vs = .ref a :: us ∧ H a = some (.lst (l.map V.str)) ∧ LinesG H ls us
theorem LinesG.same {H H' : Hp} (S : Same H H') : ∀ {ls : List (List Str)} {vs : List V}, LinesG H ls vs → LinesG H' ls vs
  | [], _, h => h
  | _ :: _, _, ⟨a, us, e, h1, h2⟩ => ⟨a, us, e, S _ _ h1, h2.same S⟩
theorem LinesG.len {H : Hp} : ∀ {ls : List (List Str)} {vs : List V}, LinesG H ls vs → vs.length = ls.length
  | [], _, h => by rw [show _ = [] from h]; rfl
  | _ :: _, _, ⟨a, us, e, h1, h2⟩ => by rw [e, List.length_cons, List.length_cons, h2.len]
theorem LinesG.get {H : Hp} : ∀ {ls : List (List Str)} {vs : List V} {i : Nat} {v : V}, LinesG H ls vs → vs[i]? = some v → ∃ a l, v = .ref a ∧ ls[i]? = some l ∧ H a = some (.lst (l.map V.str))
  | [], _, _, _, h, e => by rw [show _ = [] from h] at e; simp at e
  | l :: _, _, 0, _, ⟨a, us, e0, h1, _⟩, e => by rw [e0] at e; cases e; exact ⟨a, l, rfl, rfl, h1⟩
  | _ :: ls, _, i + 1, _, ⟨a, us, e0, _, h2⟩, e => by
    rw [e0] at e
    obtain ⟨a', l', x, y, z⟩ := LinesG.get (ls := ls) (i := i) h2 (by simpa using e)
    exact ⟨a', l', x, by simpa using y, z⟩
theorem LinesG.app {H : Hp} {a : Addr} {l : List Str} (h1 : H a = some (.lst (l.map V.str))) : ∀ {ls : List (List Str)} {vs : List V}, LinesG H ls vs → LinesG H (ls ++ [l]) (vs ++ [.ref a])
  | [], _, h => by rw [show _ = [] from h]; exact ⟨a, [], rfl, h1, rfl⟩
  | _ :: _, _, ⟨b, us, e, g1, g2⟩ => by rw [e]; exact ⟨b, us ++ [.ref a], rfl, g1, g2.app h1⟩
theorem LinesG.but {n : Int} {H H' : Hp} {p : Addr} (P : Pl n H p) (B : But p H H') : ∀ {ls : List (List Str)} {vs : List V}, (∀ l ∈ ls, l ≠ []) → LinesG H ls vs → LinesG H' ls vs
  | [], _, _, h => h
  | l :: ls, _, hn, ⟨a, us, e, h1, h2⟩ => by
    refine ⟨a, us, e, B.rd ?_ h1, h2.but P B fun l hl => hn l (List.mem_cons_of_mem _ hl)⟩
    obtain ⟨x, y, z, _, _, _, hp⟩ := P
    refine ne_of h1 hp ?_
    cases l with
    | nil => exact absurd rfl (hn [] List.mem_cons_self)
    | cons w l => intro e; cases e
def lineW (all : Nms) : List (Int × Int) → Nms → List Nd → List (List Str)
  | h :: hs, n :: ns, b :: bs => funW all h n b :: lineW all hs ns bs
  | _, _, _ => []
theorem lineW_flat {all : Nms} : ∀ {hs : List (Int × Int)} {ns : Nms} {bs : List Nd}, (lineW all hs ns bs).flatten = progW all hs ns bs
  | h :: hs, n :: ns, b :: bs => by show (funW all h n b :: lineW all hs ns bs).flatten = _; rw [List.flatten_cons, lineW_flat]; rfl
  | [], _, _ => rfl
  | _ :: _, [], _ => rfl
  | _ :: _, _ :: _, [] => rfl
def q_Lprogram (Z : Adr) (a b c : V) (H : Hp) (Q : VK) (E : XK) : Prop := ∃ (p : Addr) (m r n : Int), a = .ref p ∧ b = .int m ∧ c = .int r ∧ 1 ≤ m ∧ m ≤ 16 ∧ 1 ≤ r ∧ r ≤ 100 ∧ n ≤ 10000000 ∧ Pl n H p ∧
  ∀ (nm : Nms) (hs : List (Int × Int)) (bs : List Nd) (u tn ls ll : Addr) (vs us : List V) H', But p H H' → Pl (n + 200000) H' p → H' u = some (.tup [.ref tn, .ref ls, .ref ll]) → H' tn = some (.tup vs) → NamesAt H' nm vs → H ls = none → H' ls = some (.lst (((hs.length : Int) :: (flat hs ++ encs bs)).map V.int)) →
    H ll = none → H' ll = some (.lst us) → LinesG H' (lineW nm hs nm bs) us → PrgOK nm hs bs → (hs.length : Int) ≤ m → ((encs bs).length : Int) ≤ hs.length * (2 + 26 * r) → Q (.ref u) H'
/-! #### names as drawn -/
def ch1 (c : Nat) : Str := ofL [c]
theorem join_ch : ∀ cs : List Nat, Txt.join ("" : Str) (cs.map ch1) = ofL cs := fun cs => by
  rw [txt_join]
  induction cs with
  | nil => rfl
  | cons c cs ih =>
    cases cs with
    | nil => rfl
    | cons d cs =>
      show ch1 c ++ ("" : Str) ++ Str.join ("" : Str) ((d :: cs).map ch1) = _
      rw [ih, em_is]
      refine Str.ext' (Array.toList_inj.mp ?_)
      simp [Str.cps_append, ch1, ofL]
def LETL : List Nat := [97, 98, 99, 100, 101, 102, 103, 104, 105, 106, 107, 108, 109, 110, 111, 112, 113, 114, 115, 116, 117, 118, 119, 120, 121, 122]
theorem LET_ls : ("abcdefghijklmnopqrstuvwxyz" : Str).cps.toList = LETL := by decide +kernel
theorem LETL_at : ∀ j : _root_.Fin 26, LETL[j.val]? = some (97 + j.val) := by decide
theorem let_occ : ∀ j : _root_.Fin 26, Builtin.Str.occurrences ("abcdefghijklmnopqrstuvwxyz" : Str) (ch1 (97 + j.val)) 0 ("abcdefghijklmnopqrstuvwxyz" : Str).length 1 = [j.val] := by decide +kernel
theorem set_last {α : Type} (l : List α) (a b : α) : (l ++ [a]).set ((l ++ [a]).length - 1) b = l ++ [b] := by
  rw [List.length_append, List.length_singleton, Nat.add_sub_cancel, List.set_append_right _ _ (Nat.le_refl _), Nat.sub_self]
  rfl
/-- names and heads so far -/
structure HdInv (hs : List (Int × Int)) (nm : Nms) : Prop where
  l : nm.length = hs.length
  n : ∀ x ∈ nm, isName x.1 = true ∧ (∀ w ∈ x.2, isName w = true) ∧ x.2.Nodup
  d : (nm.map (·.1)).Nodup
  b : ∀ (i : Nat) (x : Str × List Str) (h : Int × Int), nm[i]? = some x → hs[i]? = some h → (x.2.length : Int) = h.2 ∧ 0 ≤ h.1 ∧ h.1 ≤ (if 0 < i then 4 else 0) ∧ h.1 ≤ h.2 ∧ h.2 ≤ 12
theorem HdInv.nil : HdInv [] [] := ⟨rfl, fun x h => (by cases h), List.nodup_nil, fun i x h e => (by simp at e)⟩
theorem nodup_snoc {α : Type} {l : List α} {a : α} (h : l.Nodup) (ha : a ∉ l) : (l ++ [a]).Nodup := List.nodup_append.mpr ⟨h, List.pairwise_singleton _ _, fun x hx y hy e => by
  rw [List.mem_singleton.mp hy] at e
  exact ha (by rw [← e]; exact hx)⟩
theorem HdInv.app {hs : List (Int × Int)} {nm : Nms} (I : HdInv hs nm) {w : Str} {bx : List Str} {p b : Int} (h1 : isName w = true) (h2 : w ∉ nm.map (·.1)) (h3 : ∀ v ∈ bx, isName v = true) (h4 : bx.Nodup) (h5 : (bx.length : Int) = b) (h6 : 0 ≤ p) (h7 : p ≤ (if 0 < hs.length then 4 else 0)) (h8 : p ≤ b) (h9 : b ≤ 12) : HdInv (hs ++ [(p, b)]) (nm ++ [(w, bx)]) := by
  refine ⟨by simp [I.l], fun x hx => ?_, by rw [List.map_append]; exact nodup_snoc I.d h2, fun i x h e1 e2 => ?_⟩
  · rcases List.mem_append.mp hx with z | z
    · exact I.n x z
    · rw [List.mem_singleton.mp z]; exact ⟨h1, h3, h4⟩
  · by_cases c : i < nm.length
    · rw [List.getElem?_append_left c] at e1
      rw [List.getElem?_append_left (by rw [← I.l]; exact c)] at e2
      exact I.b i x h e1 e2
    · rw [List.getElem?_append_right (by omega)] at e1
      rw [List.getElem?_append_right (by rw [← I.l]; omega)] at e2
      have hi := (List.getElem?_eq_some_iff.mp e1).1
      simp at hi
      have e : i = nm.length := by omega
      subst e
      rw [Nat.sub_self] at e1
      rw [I.l, Nat.sub_self] at e2
      cases e1
      cases e2
      rw [I.l]
      exact ⟨h5, h6, h7, h8, h9⟩
theorem HdInv.heads {hs : List (Int × Int)} {nm : Nms} (I : HdInv hs nm) (h1 : 1 ≤ hs.length) (h2 : hs.length ≤ 16) : HeadsOK hs := ⟨h1, h2, fun i h e => by
  have hi : i < nm.length := by rw [I.l]; exact (List.getElem?_eq_some_iff.mp e).1
  obtain ⟨_, a⟩ := I.b i _ h (List.getElem?_eq_getElem hi) e
  exact a⟩
theorem HdInv.nms {hs : List (Int × Int)} {nm : Nms} (I : HdInv hs nm) : NmOK nm hs := ⟨I.l, I.n, I.d, fun i x h e1 e2 => (I.b i x h e1 e2).1⟩
/-! #### shapes -/
def manyT : List Int := [1, 0, 0, 2, 0, 1, 2, 2, 2, 2, 2, 2, 2, 2, 2, 3, 1, 0]
theorem LW_at {k : Int} (h2 : 2 ≤ k) (h19 : k ≤ 19) : LW[(k + 1).toNat]? = some (wordK k) := by
  unfold LW wordK
  have hl : (k - 2).toNat < WD.length := by rw [WD_len]; omega
  rw [List.getElem?_append_right (by show 3 ≤ _; omega), List.getD_eq_getElem?_getD]
  have e : (k + 1).toNat - ([("fun" : Str), ("with" : Str), ("is" : Str)] : List Str).length = (k - 2).toNat := by show (k + 1).toNat - 3 = _; omega
  rw [e, List.getElem?_eq_getElem hl]
  rfl
theorem manyT_all : ∀ i : _root_.Fin 18, (0 ≤ manyT.getD i.val 0 ∧ manyT.getD i.val 0 ≤ 3) ∧ ((5 ≤ i.val → manyT.getD i.val 0 = manyP ((i.val : Int) + 2)) ∧ ((i.val = 0 → manyT.getD i.val 0 = 1) ∧ ((i.val = 3 → manyT.getD i.val 0 = 2) ∧ (i.val = 17 → manyT.getD i.val 0 = 0)))) := by decide +kernel
theorem manyT_at {k : Int} (h2 : 2 ≤ k) (h19 : k ≤ 19) : ∃ m : Nat, manyT[(k - 2).toNat]? = some (m : Int) ∧ m ≤ 3 ∧ (7 ≤ k → (m : Int) = manyP k) ∧ (k = 2 → m = 1) ∧ (k = 5 → m = 2) ∧ (k = 19 → m = 0) := by
  obtain ⟨⟨a0, a1⟩, a2, a3, a4, a5⟩ := manyT_all ⟨(k - 2).toNat, by omega⟩
  dsimp only at a0 a1 a2 a3 a4 a5
  have hl : (k - 2).toNat < manyT.length := by show _ < 18; omega
  have e : manyT.getD (k - 2).toNat 0 = manyT[(k - 2).toNat] := getD_of (List.getElem?_eq_getElem hl)
  rw [e] at a0 a1 a2 a3 a4 a5
  refine ⟨manyT[(k - 2).toNat].toNat, by rw [List.getElem?_eq_getElem hl, Int.toNat_of_nonneg a0], by omega, fun h => ?_, fun h => ?_, fun h => ?_, fun h => ?_⟩
  · rw [Int.toNat_of_nonneg a0, a2 (by omega), show (((k - 2).toNat : Nat) : Int) + 2 = k by omega]
  · rw [a3 (by omega)]; rfl
  · rw [a4 (by omega)]; rfl
  · rw [a5 (by omega)]; rfl
theorem strs_sh {ws : List Str} (h : ∀ w ∈ ws, isName w = true) : Sh 1 (.tuple (ws.map PyData.str)) := Sh.tup fun d hd => by
  obtain ⟨w, hw, rfl⟩ := List.mem_map.mp hd
  exact Sh.str (clean_name (h w hw)).ok
theorem eqv_nil (ws : List Str) : PyData.eqv (.tuple (ws.map PyData.str)) (.tuple []) = decide (ws = []) := by
  cases ws with
  | nil => rfl
  | cons w ws => simp [PyData.eqv, PyData.eqvAll]
theorem sh_le3 (c : Int) : c + 1 + 1 + 1 ≤ c + 3 := by omega
theorem sh_m3 {kd : Int} {v m : Nat} (h : (m : Int) = v + kd - 3) (e : kd = 3) : m = v := by omega
theorem sh_m4 {kd : Int} {v m : Nat} (h : (m : Int) = v + kd - 3) (e : kd = 4) : m = v + 1 := by omega
theorem sh_v {kd : Int} {v : Nat} (h : kd - 2 ≤ v) : (kd = 3 → 1 ≤ v) ∧ (kd = 4 → 2 ≤ v) := by omega
theorem sh_nn {kd : Int} {v : Nat} (e : kd = 3 ∨ kd = 4) : ∃ m : Nat, (v : Int) + kd - 3 = (m : Int) := ⟨((v : Int) + kd - 3).toNat, by omega⟩
theorem sh_7 {kd : Int} (h : 2 ≤ kd) (a : ¬ kd = 2) (b : ¬ (kd = 3 ∨ kd = 4)) (d : ¬ kd = 5) (e : ¬ kd = 6) : 7 ≤ kd := by omega
/-! #### programs -/
theorem LinesG.far2 {H H' : Hp} {p q : Addr} {xs ys : List V} (hp : H p = some (.lst xs)) (hx : ∀ w r, xs ≠ V.str w :: r) (hq : H q = some (.lst ys)) (hy : ∀ w r, ys ≠ V.str w :: r) (B : But2 p q H H') : ∀ {ls : List (List Str)} {vs : List V}, (∀ l ∈ ls, l ≠ []) → LinesG H ls vs → LinesG H' ls vs
  | [], _, _, h => h
  | l :: ls, _, hn, ⟨a, us, e, h1, h2⟩ => by
    have nl := hn l List.mem_cons_self
    refine ⟨a, us, e, B.rd (ne_of h1 hp ?_) (ne_of h1 hq ?_) h1, h2.far2 hp hx hq hy B fun l hl => hn l (List.mem_cons_of_mem _ hl)⟩
    · cases l with
      | nil => exact absurd rfl nl
      | cons w l => intro e; exact hx w _ (by injection e with e; exact e.symm)
    · cases l with
      | nil => exact absurd rfl nl
      | cons w l => intro e; exact hy w _ (by injection e with e; exact e.symm)
theorem LinesG.far {H H' : Hp} {p : Addr} {xs : List V} (hp : H p = some (.lst xs)) (hx : ∀ w r, xs ≠ V.str w :: r) (B : But p H H') {ls : List (List Str)} {vs : List V} (hn : ∀ l ∈ ls, l ≠ []) (h : LinesG H ls vs) : LinesG H' ls vs := h.far2 hp hx hp hx (.left B) hn
theorem LinesG.refs {H : Hp} : ∀ {ls : List (List Str)} {vs : List V}, LinesG H ls vs → ∀ w r, vs ≠ V.str w :: r
  | [], _, h, w, r => by rw [show _ = [] from h]; simp
  | _ :: _, _, ⟨a, us, e, _, _⟩, w, r => by rw [e]; simp
theorem lineW_snoc {all : Nms} {h : Int × Int} {n : Str × List Str} {b : Nd} : ∀ {hs : List (Int × Int)} {ns : Nms} {bs : List Nd}, Al hs ns bs → lineW all (hs ++ [h]) (ns ++ [n]) (bs ++ [b]) = lineW all hs ns bs ++ [funW all h n b]
  | _, _, _, .nil => rfl
  | _, _, _, .cons A => congrArg (List.cons _) (lineW_snoc A)
theorem lineW_ne {all : Nms} : ∀ {hs : List (Int × Int)} {ns : Nms} {bs : List Nd}, ∀ l ∈ lineW all hs ns bs, l ≠ []
  | h :: hs, n :: ns, b :: bs, l, hl => by
    rcases List.mem_cons.mp (show l ∈ funW all h n b :: lineW all hs ns bs from hl) with z | z
    · rw [z]; show (_ :: _) ≠ []; simp
    · exact lineW_ne l z
  | [], _, _, l, hl => by cases hl
  | _ :: _, [], _, l, hl => by cases hl
  | _ :: _, _ :: _, [], l, hl => by cases hl
theorem flat_take {hs : List (Int × Int)} {i : Nat} {h : Int × Int} (e : hs[i]? = some h) : flat (hs.take (i + 1)) = flat (hs.take i) ++ [h.1, h.2] := by
  have hi := (List.getElem?_eq_some_iff.mp e).1
  rw [List.take_succ_eq_append_getElem hi, flat_app, (List.getElem?_eq_some_iff.mp e).2]
  rfl
theorem lineW_len {all : Nms} : ∀ {hs : List (Int × Int)} {ns : Nms} {bs : List Nd}, (lineW all hs ns bs).length ≤ bs.length
  | _ :: _, _ :: _, _ :: _ => Nat.succ_le_succ lineW_len
  | [], _, _ => Nat.zero_le _
  | _ :: _, [], _ => Nat.zero_le _
  | _ :: _, _ :: _, [] => Nat.zero_le _
/-! #### texts as they grow -/
def Opn (t : Str) (W : List Str) : Prop := ∀ r, ws0 (t.cps.toList ++ r) = W.map (fun w => w.cps.toList) ++ ws0 r
theorem Opn.gap {g : Str} (h : ∀ c ∈ g.cps.toList, isB c) : Opn g [] := fun r => ws0_gap h
theorem Opn.word {t w g : Str} {W : List Str} (h : Opn t W) (hw : Clean w) (hg : g.cps.toList ≠ []) (hb : ∀ c ∈ g.cps.toList, isB c) : Opn (t ++ w ++ g) (W ++ [w]) := fun r => by
  rw [Str.cps_append, Str.cps_append, Array.toList_append, Array.toList_append, List.append_assoc, List.append_assoc, h, ws0_word hw.1 hw.b hg hb]
  simp
theorem Opn.words {t : Str} {W : List Str} (h : Opn t W) : wordsT t = W := by
  have := h []
  rw [List.append_nil, ws0_nil, List.append_nil] at this
  rw [wordsT_eq, this, map_ofL]
theorem words_rstrip {t : Str} {W : List Str} (h : wordsT t = W) : wordsT (Txt.rstripChars (Txt.rstripChars t " ") "\n") = W := by
  have b1 : ∀ c ∈ (" " : Str).cps.toList, isB c := by rw [bl_is]; intro c hc; exact .inl (List.mem_singleton.mp hc)
  have b2 : ∀ c ∈ ("\n" : Str).cps.toList, isB c := by rw [nl_is]; intro c hc; exact .inr (List.mem_singleton.mp hc)
  rw [wordsT_eq, rstrip_ws b2, rstrip_ws b1, ← wordsT_eq, h]
theorem strOk_app {a b : Str} (ha : PyData.strOk a = true) (hb : PyData.strOk b = true) : PyData.strOk (a ++ b) = true := by
  unfold PyData.strOk at *
  rw [Array.all_eq_true_iff_forall_mem] at *
  intro x hx
  rw [Str.cps_append] at hx
  rcases Array.mem_append.mp hx with z | z
  · exact ha x z
  · exact hb x z
theorem strOk_gap {g : Str} (h : ∀ c ∈ g.cps.toList, isB c) : PyData.strOk g = true := by
  unfold PyData.strOk
  rw [Array.all_eq_true_iff_forall_mem]
  intro x hx
  rcases h x (Array.mem_toList_iff.mpr hx) with z | z <;> subst z <;> decide
def leadL : List Str := ["", "", " ", "\n", "  \n"]
theorem leads_ok : leadL.all (fun g => (g.cps.toList.all (fun c => decide (c = 32) || decide (c = 10)) && decide (g.length ≤ 3))) = true := by decide +kernel
theorem lead_is {g : Str} (h : g ∈ leadL) : (∀ c ∈ g.cps.toList, isB c) ∧ g.length ≤ 3 := by
  have a := List.all_eq_true.mp leads_ok g h
  simp only [Bool.and_eq_true, List.all_eq_true, Bool.or_eq_true, decide_eq_true_eq] at a
  exact ⟨a.1, a.2⟩
theorem flatten_take {α : Type} {ls : List (List α)} {i : Nat} {l : List α} (e : ls[i]? = some l) : (ls.take (i + 1)).flatten = (ls.take i).flatten ++ l := by
  have hi := (List.getElem?_eq_some_iff.mp e).1
  rw [List.take_succ_eq_append_getElem hi, List.flatten_append, (List.getElem?_eq_some_iff.mp e).2]
  simp
theorem flatten_le {α : Type} (ls : List (List α)) (i : Nat) : (ls.take i).flatten.length ≤ ls.flatten.length := by
  conv => rhs; rw [← List.take_append_drop i ls, List.flatten_append, List.length_append]
  omega
theorem lineW_all {all : Nms} {P : List Str → Prop} : ∀ {hs : List (Int × Int)} {ns : Nms} {bs : List Nd}, (∀ (i : Nat) (h : Int × Int) (n : Str × List Str) (b : Nd), hs[i]? = some h → ns[i]? = some n → bs[i]? = some b → P (funW all h n b)) → ∀ l ∈ lineW all hs ns bs, P l
  | h :: hs, n :: ns, b :: bs, hp, l, hl => by
    rcases List.mem_cons.mp (show l ∈ funW all h n b :: lineW all hs ns bs from hl) with z | z
    · rw [z]; exact hp 0 h n b rfl rfl rfl
    · exact lineW_all (fun i h n b x y z => hp (i + 1) h n b (by simpa using x) (by simpa using y) (by simpa using z)) l z
  | [], _, _, _, l, hl => by cases hl
  | _ :: _, [], _, _, l, hl => by cases hl
  | _ :: _, _ :: _, [], _, l, hl => by cases hl
theorem lineW_sum {all : Nms} : ∀ {hs : List (Int × Int)} {ns : Nms} {bs : List Nd}, (∀ (i : Nat) (h : Int × Int) (n : Str × List Str) (b : Nd), hs[i]? = some h → ns[i]? = some n → bs[i]? = some b → (funW all h n b).length ≤ 16 + 2 * (enc b).length) → (lineW all hs ns bs).flatten.length ≤ 16 * hs.length + 2 * (encs bs).length
  | h :: hs, n :: ns, b :: bs, hp => by
    have ih := lineW_sum (all := all) (hs := hs) (ns := ns) (bs := bs) fun i h n b x y z => hp (i + 1) h n b (by simpa using x) (by simpa using y) (by simpa using z)
    have h0 := hp 0 h n b rfl rfl rfl
    show (funW all h n b :: lineW all hs ns bs).flatten.length ≤ 16 * (h :: hs).length + 2 * (enc b ++ encs bs).length
    rw [List.flatten_cons, List.length_append, List.length_cons, List.length_append]
    omega
  | [], _, _, _ => Nat.zero_le _
  | _ :: _, [], _, _ => Nat.zero_le _
  | _ :: _, _ :: _, [], _ => Nat.zero_le _
/-- the lines of a program are good for a text -/
theorem prg_lines {nm : Nms} {hs : List (Int × Int)} {bs : List Nd} (P : PrgOK nm hs bs) : (∀ l ∈ lineW nm hs nm bs, l ≠ [] ∧ ∀ w ∈ l, Clean w ∧ w.length ≤ 61) ∧ (lineW nm hs nm bs).flatten.length ≤ 16 * hs.length + 2 * (encs bs).length :=
  ⟨lineW_all fun i h n b x y z => ⟨by show (_ :: _) ≠ []; simp, fun w hw => ⟨prog_all (P := Clean) (fun w h => clean_name h) (fun v _ => clean_num v) clean_K clean_kw P i h n b x y z w hw, (prg_small P i h n b x y z).2 w hw⟩⟩,
   lineW_sum fun i h n b x y z => (prg_small P i h n b x y z).1⟩

def NoStr (H : Hp) (v : V) : Prop := v = .non ∨ (∃ i, v = .int i) ∨ (∃ b, v = .bl b) ∨ (∃ p xs, v = .ref p ∧ H p = some (.lst xs)) ∨ (∃ p xs, v = .ref p ∧ H p = some (.tup xs)) ∨ ∃ p kvs, v = .ref p ∧ H p = some (.dK kvs)
theorem NoStr.ty {K : PySem.W.Frag} {H : Hp} {v : V} (h : NoStr H v) : ∃ t : String, TyX K H v (.type t) ∧ kitB t "str" = some false := by
  rcases h with rfl | ⟨i, rfl⟩ | ⟨b, rfl⟩ | ⟨p, xs, rfl, h⟩ | ⟨p, xs, rfl, h⟩ | ⟨p, kvs, rfl, h⟩
  · exact ⟨"NoneType", .base .non, by decide +kernel⟩
  · exact ⟨"int", .base (.int i), by decide +kernel⟩
  · exact ⟨"bool", .base (.bl b), by decide +kernel⟩
  · exact ⟨"list", tyx_l (SqL.of h), by decide +kernel⟩
  · exact ⟨"tuple", tyx_t (SqT.of h), by decide +kernel⟩
  · exact ⟨"dict", .base (.dK h), by decide +kernel⟩
theorem NoStr.same {H H' : Hp} {v : V} (S : Same H H') (h : NoStr H v) : NoStr H' v := by
  rcases h with h | h | h | ⟨p, xs, e, h⟩ | ⟨p, xs, e, h⟩ | ⟨p, kvs, e, h⟩
  · exact .inl h
  · exact .inr (.inl h)
  · exact .inr (.inr (.inl h))
  · exact .inr (.inr (.inr (.inl ⟨p, xs, e, S _ _ h⟩)))
  · exact .inr (.inr (.inr (.inr (.inl ⟨p, xs, e, S _ _ h⟩))))
  · exact .inr (.inr (.inr (.inr (.inr ⟨p, kvs, e, S _ _ h⟩))))

/-! ### words that can't stand, behind the lines of a plain program -/
def shR {α : Type} (n : Nat) (x : Rt (α × Nat)) : Rt (α × Nat) := match x with
  | .ok r => .ok (r.1, n + r.2)
  | .error e => .error (n + e)
theorem get_sh {ws pre b : List Str} (e : ws = pre ++ b) (k : Nat) : ws[pre.length + k]? = b[k]? := by
  rw [e, List.getElem?_append_right (by omega), Nat.add_sub_cancel_left]
theorem due_sh {fit : Str → Bool} {ws pre b : List Str} (e : ws = pre ++ b) (k : Nat) : dueW fit ws (pre.length + k) = shR pre.length (dueW fit b k) := by
  unfold dueW
  rw [get_sh e]
  cases b[k]? with
  | none => rfl
  | some w =>
    dsimp only
    by_cases c : fit w = true
    · rw [if_pos c, if_pos c]; rfl
    · rw [if_neg c, if_neg c]; rfl
theorem boxes_sh {ws pre b : List Str} {en : Str} {m : Int} (e : ws = pre ++ b) : ∀ (f : Nat) (bx : List Str) (k : Nat), boxesW ws en m f bx (pre.length + k) = shR pre.length (boxesW b en m f bx k)
  | 0, bx, k => rfl
  | f + 1, bx, k => by
    unfold boxesW
    rw [get_sh e]
    by_cases c : b[k]? = some en
    · rw [if_pos c, if_pos c]; rfl
    rw [if_neg c, if_neg c]
    by_cases d : (bx.length : Int) = m
    · rw [if_pos d, if_pos d]; rfl
    rw [if_neg d, if_neg d, due_sh e]
    cases q : dueW (fun w => isName w && !decide (w ∈ bx)) b k with
    | error x => rfl
    | ok r =>
      show bindT (.ok (r.1, pre.length + r.2)) _ = shR _ (bindT (.ok r) _)
      exact boxes_sh e f _ r.2
theorem boxes_end {b : List Str} {en : Str} {m : Int} : ∀ (f : Nat) (bx : List Str) (k : Nat), b.length ≤ k → boxesW b en m f bx k = .error k
  | 0, _, _, _ => rfl
  | f + 1, bx, k, h => by
    have e : b[k]? = none := List.getElem?_eq_none h
    unfold boxesW
    rw [e, if_neg (by intro z; cases z)]
    by_cases d : (bx.length : Int) = m
    · rw [if_pos d]
    · rw [if_neg d]
      exact bindT_er (by unfold dueW; rw [e])
theorem boxes_fuel {b : List Str} {en : Str} {m : Int} : ∀ (f g : Nat) (bx : List Str) (k : Nat), b.length ≤ k + f → b.length ≤ k + g → boxesW b en m f bx k = boxesW b en m g bx k
  | 0, g, bx, k, h, _ => (boxes_end g bx k (by omega)).symm
  | f + 1, 0, bx, k, _, h => boxes_end (f + 1) bx k (by omega)
  | f + 1, g + 1, bx, k, h, h' => by
    unfold boxesW
    by_cases c : b[k]? = some en
    · rw [if_pos c, if_pos c]
    rw [if_neg c, if_neg c]
    by_cases d : (bx.length : Int) = m
    · rw [if_pos d, if_pos d]
    rw [if_neg d, if_neg d]
    cases q : dueW (fun w => isName w && !decide (w ∈ bx)) b k with
    | error x => rfl
    | ok r =>
      obtain ⟨_, _, e3, _⟩ := dueW_ok q
      exact boxes_fuel f g _ r.2 (by omega) (by omega)
theorem own_sh {ws pre b : List Str} {hd : Hds} {bx : List Str} {kind : Int} (e : ws = pre ++ b) (k : Nat) :
    ownW ws hd bx kind (pre.length + k) = match ownW b hd bx kind k with
      | .ok o => .ok (o.1, o.2.1, pre.length + o.2.2)
      | .error x => .error (pre.length + x) := by
  unfold ownW
  by_cases c0 : kind = 2
  · rw [if_pos c0, if_pos c0, due_sh e]
    cases dueW (fun w => decide (w ∈ bx)) b k <;> rfl
  rw [if_neg c0, if_neg c0]
  by_cases c1 : kind = 3
  · rw [if_pos c1, if_pos c1, due_sh e]
    cases dueW (fun w => isNum w && (decide (1 ≤ numT w) && decide (numT w ≤ 12))) b k <;> rfl
  rw [if_neg c1, if_neg c1]
  by_cases c2 : kind = 4
  · rw [if_pos c2, if_pos c2, due_sh e]
    cases dueW (fun w => isNum w && (decide (2 ≤ numT w) && decide (numT w ≤ 12))) b k <;> rfl
  rw [if_neg c2, if_neg c2]
  by_cases c3 : kind = 6
  · rw [if_pos c3, if_pos c3, due_sh e]
    cases dueW (fun w => isName w && (hdOf hd w).isSome) b k <;> rfl
  rw [if_neg c3, if_neg c3]
  by_cases c4 : kind = 5
  · rw [if_pos c4, if_pos c4]
  · rw [if_neg c4, if_neg c4]
theorem parts_sh {f g : Nat → Rt (List Int × Nat)} {n : Nat} (h : ∀ k, f (n + k) = shR n (g k)) : ∀ (m k : Nat), partsW f m (n + k) = shR n (partsW g m k)
  | 0, _ => rfl
  | m + 1, k => by
    show bindT (partsW f m (n + k)) _ = shR n (bindT (partsW g m k) _)
    rw [parts_sh h m k]
    cases partsW g m k with
    | error x => rfl
    | ok r =>
      show bindT (f (n + r.2)) _ = shR n (bindT (g r.2) _)
      rw [h]
      cases g r.2 <;> rfl
theorem node_sh {ws pre b : List Str} {hd : Hds} {bx : List Str} (e : ws = pre ++ b) : ∀ (f k : Nat), nodeW ws hd bx f (pre.length + k) = shR pre.length (nodeW b hd bx f k)
  | 0, k => rfl
  | f + 1, k => by
    show bindT (dueW (isNodeW bx) ws (pre.length + k)) _ = shR pre.length (bindT (dueW (isNodeW bx) b k) _)
    rw [due_sh e]
    cases dueW (isNodeW bx) b k with
    | error x => rfl
    | ok r =>
      show (if r.1 ∈ bx then (_ : Rt (List Int × Nat)) else _) = shR pre.length (if r.1 ∈ bx then _ else _)
      by_cases c : r.1 ∈ bx
      · rw [if_pos c, if_pos c]; rfl
      rw [if_neg c, if_neg c]
      by_cases d : isNum r.1 = true
      · rw [if_pos d, if_pos d]; rfl
      rw [if_neg d, if_neg d]
      cases kindW r.1 with
      | none => rfl
      | some kind =>
        show bindT (ownW ws hd bx kind (pre.length + r.2)) _ = shR pre.length (bindT (ownW b hd bx kind r.2) _)
        rw [own_sh e]
        cases ownW b hd bx kind r.2 with
        | error x => rfl
        | ok o =>
          show bindT (partsW (nodeW ws hd bx f) o.2.1.toNat (pre.length + o.2.2)) _ = shR pre.length (bindT (partsW (nodeW b hd bx f) o.2.1.toNat o.2.2) _)
          rw [parts_sh (fun k => node_sh e f k)]
          cases partsW (nodeW b hd bx f) o.2.1.toNat o.2.2 <;> rfl
/-- what is read of a node asks the table of heads for the names behind calls alone -/
def CallSame (b : List Str) (hd hd' : Hds) : Prop := ∀ (i : Nat) (x y : Str), b[i]? = some x → kindW x = some 6 → b[i + 1]? = some y → isName y = true → hdOf hd y = hdOf hd' y
theorem due_ext {f g : Str → Bool} {b : List Str} {k : Nat} (h : ∀ y, b[k]? = some y → f y = g y) : dueW f b k = dueW g b k := by
  unfold dueW
  cases e : b[k]? with
  | none => rfl
  | some w => dsimp only; rw [h w e]
theorem own_hd {b : List Str} {hd hd' : Hds} {bx : List Str} {kind : Int} {k : Nat} (h : kind = 6 → ∀ y, b[k]? = some y → isName y = true → hdOf hd y = hdOf hd' y) : ownW b hd bx kind k = ownW b hd' bx kind k := by
  unfold ownW
  by_cases c3 : kind = 6
  · have h' := h c3
    clear h
    subst c3
    rw [if_neg (by decide), if_neg (by decide), if_neg (by decide), if_pos rfl, if_neg (by decide), if_neg (by decide), if_neg (by decide), if_pos rfl]
    rw [due_ext (g := fun w => isName w && (hdOf hd' w).isSome) fun y e => by
      cases q : isName y with
      | false => rfl
      | true => rw [h' y e q]]
    cases q : dueW (fun w => isName w && (hdOf hd' w).isSome) b k with
    | error x => rfl
    | ok r =>
      obtain ⟨e1, e2, _⟩ := dueW_ok q
      have := h' r.1 e1 (Bool.and_eq_true_iff.mp e2).1
      show Except.ok _ = Except.ok _
      rw [this]
  · rw [if_neg c3, if_neg c3]
theorem parts_ext {f g : Nat → Rt (List Int × Nat)} (h : ∀ k, f k = g k) (m k : Nat) : partsW f m k = partsW g m k := by rw [funext h]
theorem node_hd {b : List Str} {hd hd' : Hds} {bx : List Str} (h : CallSame b hd hd') : ∀ (f k : Nat), nodeW b hd bx f k = nodeW b hd' bx f k
  | 0, k => rfl
  | f + 1, k => by
    show bindT (dueW (isNodeW bx) b k) _ = bindT (dueW (isNodeW bx) b k) _
    cases q : dueW (isNodeW bx) b k with
    | error x => rfl
    | ok r =>
      obtain ⟨e1, _, e3, _⟩ := dueW_ok q
      show (if r.1 ∈ bx then (_ : Rt (List Int × Nat)) else _) = if r.1 ∈ bx then _ else _
      by_cases c : r.1 ∈ bx
      · rw [if_pos c, if_pos c]
      rw [if_neg c, if_neg c]
      by_cases d : isNum r.1 = true
      · rw [if_pos d, if_pos d]
      rw [if_neg d, if_neg d]
      cases kw : kindW r.1 with
      | none => rfl
      | some kind =>
        show bindT (ownW b hd bx kind r.2) _ = bindT (ownW b hd' bx kind r.2) _
        rw [own_hd (hd' := hd') fun k6 y ey ny => h k r.1 y e1 (by rw [kw, k6]) (by rw [← e3]; exact ey) ny]
        cases ownW b hd' bx kind r.2 with
        | error x => rfl
        | ok o =>
          show bindT (partsW (nodeW b hd bx f) o.2.1.toNat o.2.2) _ = bindT (partsW (nodeW b hd' bx f) o.2.1.toNat o.2.2) _
          rw [parts_ext (fun k => node_hd h f k)]
/-! #### lines of a plain program -/
def lnP (p : Nat) (n : Str × List Str) : List Str := ("fun" : Str) :: n.1 :: (n.2.take p ++ ("with" : Str) :: (n.2.drop p ++ [("is" : Str), "0"]))
theorem zero_word : isName "0" = false ∧ isNum "0" = true ∧ numT "0" = 0 := by decide +kernel
theorem node0 {ws r : List Str} {hd : Hds} {bx : List Str} {f k : Nat} (h : ws.drop k = ("0" : Str) :: r) (hb : ∀ w ∈ bx, isName w = true) : nodeW ws hd bx (f + 1) k = .ok ([0, 0], k + 1) := by
  obtain ⟨z1, z2, z3⟩ := zero_word
  show bindT (dueW (isNodeW bx) ws k) _ = _
  rw [bindT_of (dueW_of h (by unfold isNodeW; rw [z2]; simp))]
  dsimp only
  rw [if_neg fun z => (by rw [hb _ z] at z1; cases z1), if_pos z2, z3]
theorem once_ln {ws r : List Str} {hd : Hds} {P : Prg} {p : Nat} {n : Str × List Str} (n1 : isName n.1 = true) (n2 : ∀ w ∈ n.2, isName w = true) (n3 : n.2.Nodup) (dn : n.1 ∉ P.1.map (·.1)) (l16 : P.1.length < 16) (b3 : p ≤ n.2.length) (b6 : (p : Int) ≤ if P.1 = [] then 0 else 4) (b7 : n.2.length ≤ 12)
    (e : ws.drop P.2.2.2 = lnP p n ++ r) : ∃ Q : Prg, onceW ws hd P = .ok Q ∧ Q.1 = P.1 ++ [n] ∧ Q.2.2.2 = P.2.2.2 + (lnP p n).length := by
  have e0 : ws.drop P.2.2.2 = ("fun" : Str) :: (n.1 :: ((n.2.take p ++ ("with" : Str) :: (n.2.drop p ++ [("is" : Str), "0"])) ++ r)) := e
  obtain ⟨f0, e1⟩ := atw_drop e0
  have e2 := (atw_drop e1).2
  have lenp : (n.2.take p).length = p := by rw [List.length_take]; omega
  have e2' : ws.drop (P.2.2.2 + 1 + 1) = n.2.take p ++ ("with" : Str) :: (n.2.drop p ++ ("is" : Str) :: (("0" : Str) :: r)) := by rw [e2]; simp
  have l2 := congrArg List.length e2'
  simp only [List.length_drop, List.length_append, List.length_cons] at l2
  have r3 := boxes_run with_no.1 (m := (if P.1 = [] then 0 else 4 : Int)) (bx := []) (f := ws.length + 1) e2' (fun x hx => n2 x (List.mem_of_mem_take hx)) (by rw [List.nil_append]; exact n3.sublist (List.take_sublist _ _)) (by rw [List.nil_append, lenp]; exact b6) (by omega)
  rw [List.nil_append] at r3
  have e3 := dropw_app e2'
  have e3' := (atw_drop e3).2
  have r4 := boxes_run with_no.2 (m := 12) (bx := n.2.take p) (f := ws.length + 1) (k := P.2.2.2 + 1 + 1 + (n.2.take p).length + 1) e3' (fun x hx => n2 x (List.mem_of_mem_drop hx)) (by rw [List.take_append_drop]; exact n3) (by rw [List.take_append_drop]; omega) (by rw [List.length_drop]; omega)
  rw [List.take_append_drop] at r4
  have e4 := (atw_drop (dropw_app e3')).2
  have r5 := node0 (hd := hd) (f := 9) e4 n2
  refine ⟨(P.1 ++ [(n.1, n.2)], P.2.1 ++ [(p : Int), (n.2.length : Int)], P.2.2.1 ++ [0, 0], P.2.2.2 + 1 + 1 + (n.2.take p).length + 1 + (n.2.drop p).length + 1 + 1), ?_, rfl, ?_⟩
  · unfold onceW
    rw [if_neg (by omega), bindT_of (dueW_of e0 (by simp)), bindT_of (dueW_of e1 (by rw [n1, decide_eq_false dn]; rfl)), bindT_of r3, bindT_of r4, bindT_of r5]
    dsimp only
    rw [lenp]
  · unfold lnP
    simp only [List.length_cons, List.length_append, List.length_nil]
    omega
/-- the lines of a plain program -/
structure PlainL (hs : List (Int × Int)) (nm : Nms) (Ls : List (List Str)) : Prop where
  n : NmOK nm hs
  h : HeadsOK hs
  l : Ls.length = hs.length
  at_ : ∀ (i : Nat) (h : Int × Int) (n : Str × List Str), hs[i]? = some h → nm[i]? = some n → Ls[i]? = some (lnP h.1.toNat n)
theorem PlainL.get {hs : List (Int × Int)} {nm : Nms} {Ls : List (List Str)} (L : PlainL hs nm Ls) {i : Nat} (hi : i < hs.length) : ∃ (h : Int × Int) (n : Str × List Str), hs[i]? = some h ∧ nm[i]? = some n ∧ Ls[i]? = some (lnP h.1.toNat n) ∧ isName n.1 = true ∧ (∀ w ∈ n.2, isName w = true) ∧ n.2.Nodup ∧ h.1.toNat ≤ n.2.length ∧ (h.1.toNat : Int) ≤ (if i = 0 then 0 else 4) ∧ n.2.length ≤ 12 := by
  have e1 : hs[i]? = some hs[i] := List.getElem?_eq_getElem hi
  have hn : i < nm.length := by rw [L.n.l]; exact hi
  have e2 : nm[i]? = some nm[i] := List.getElem?_eq_getElem hn
  obtain ⟨a1, a2, a3⟩ := L.n.n _ (List.getElem_mem hn)
  have b := L.n.b i _ _ e2 e1
  obtain ⟨c0, c1, c2, c3⟩ := L.h.2.2 i _ e1
  refine ⟨_, _, e1, e2, L.at_ i _ _ e1 e2, a1, a2, a3, by omega, ?_, by omega⟩
  rw [Int.toNat_of_nonneg c0]
  by_cases z : i = 0
  · subst z; exact c1
  · rw [if_neg z]; rw [if_pos (by omega)] at c1; exact c1
theorem loop_take {ws : List Str} {hd : Hds} {hs : List (Int × Int)} {nm : Nms} {Ls : List (List Str)} (L : PlainL hs nm Ls) : ∀ {i : Nat} {r : List Str}, i ≤ hs.length → ws = (Ls.take i).flatten ++ r → ∀ g, ∃ Q : Prg, loopW ws hd (i + g) ([], [], [], 0) = loopW ws hd g Q ∧ Q.1 = nm.take i ∧ Q.2.2.2 = (Ls.take i).flatten.length
  | 0, r, _, _, g => ⟨([], [], [], 0), by rw [Nat.zero_add], rfl, rfl⟩
  | i + 1, r, hi, e, g => by
    obtain ⟨h, n, e1, e2, e3, n1, n2, n3, b3, b6, b7⟩ := L.get (i := i) (by omega)
    rw [flatten_take e3, List.append_assoc] at e
    obtain ⟨P, p1, p2, p3⟩ := loop_take (hd := hd) L (i := i) (by omega) e (g + 1)
    have ed : ws.drop P.2.2.2 = lnP h.1.toNat n ++ r := by rw [p3, e, List.drop_left]
    have hl : P.1.length = i := by rw [p2, List.length_take, L.n.l]; omega
    have h16 := L.h.2.1
    have dn : n.1 ∉ P.1.map (·.1) := fun z => by
      rw [p2, List.map_take] at z
      obtain ⟨j, hj, ej⟩ := List.mem_take_iff_getElem.mp z
      have hn := (List.getElem?_eq_some_iff.mp e2)
      have : (nm.map (·.1))[i]'(by rw [List.length_map]; exact hn.1) = n.1 := by rw [List.getElem_map, hn.2]
      have := (List.getElem_inj L.n.d).mp (ej.trans this.symm)
      omega
    obtain ⟨Q, q1, q2, q3⟩ := once_ln (hd := hd) n1 n2 n3 dn (by omega) b3 (by
      by_cases z : i = 0
      · rw [if_pos (List.eq_nil_of_length_eq_zero (by omega))]; rw [if_pos z] at b6; exact b6
      · rw [if_neg fun y => z (by rw [y] at hl; exact hl.symm)]; rw [if_neg z] at b6; exact b6) b7 ed
    refine ⟨Q, ?_, ?_, ?_⟩
    · rw [show i + 1 + g = i + (g + 1) by omega, p1]
      show (if P.1 = [] ∨ P.2.2.2 < ws.length then bindT (onceW ws hd P) (loopW ws hd g) else Except.ok P) = _
      have lt : P.2.2.2 < ws.length := by
        have := congrArg List.length ed
        rw [List.length_drop, List.length_append] at this
        have : (lnP h.1.toNat n).length ≠ 0 := by unfold lnP; simp
        omega
      rw [if_pos (.inr lt), bindT_of q1]
    · rw [q2, p2, List.take_succ_eq_append_getElem (List.getElem?_eq_some_iff.mp e2).1, (List.getElem?_eq_some_iff.mp e2).2]
    · rw [q3, p3, flatten_take e3, List.length_append]
/-- a plain program is read -/
theorem plain_read {hs : List (Int × Int)} {nm : Nms} {Ls : List (List Str)} (L : PlainL hs nm Ls) : ∃ r, readW Ls.flatten = .ok r := by
  have h16 := L.h.2.1
  have h1 := L.h.1
  have et : (Ls.take hs.length) = Ls := List.take_of_length_le (by rw [L.l]; exact Nat.le_refl _)
  obtain ⟨Q, q1, q2, q3⟩ := loop_take (ws := Ls.flatten) (hd := headsW Ls.flatten) L (i := hs.length) (r := []) (Nat.le_refl _) (by rw [et, List.append_nil]) (18 - hs.length)
  rw [show hs.length + (18 - hs.length) = 18 by omega] at q1
  obtain ⟨g, hg⟩ : ∃ g, 18 - hs.length = g + 1 := ⟨17 - hs.length, by omega⟩
  refine ⟨(Q.1, (Q.1.length : Int) :: Q.2.1 ++ Q.2.2.1), ?_⟩
  · unfold readW
    rw [q1, hg]
    show bindT (if Q.1 = [] ∨ Q.2.2.2 < Ls.flatten.length then _ else Except.ok Q) _ = _
    rw [if_neg]
    · rfl
    · rintro (z | z)
      · rw [q2] at z
        have := congrArg List.length z
        rw [List.length_take, L.n.l, List.length_nil] at this
        omega
      · rw [q3, et] at z; omega
/-- what comes behind the first lines -/
theorem read_more {hs : List (Int × Int)} {nm : Nms} {Ls : List (List Str)} (L : PlainL hs nm Ls) {i : Nat} {b : List Str} {x : Nat} (hi : i ≤ hs.length) (h4 : i ≤ 16) (hb : b ≠ [])
    (h : ∀ (Q : Prg) (hd : Hds), hd = headsW ((Ls.take i).flatten ++ b) → Q.1 = nm.take i → Q.2.2.2 = (Ls.take i).flatten.length → ∀ g, loopW ((Ls.take i).flatten ++ b) hd (g + 2) Q = .error x) : readW ((Ls.take i).flatten ++ b) = .error x := by
  obtain ⟨Q, q1, q2, q3⟩ := loop_take (ws := (Ls.take i).flatten ++ b) (hd := headsW ((Ls.take i).flatten ++ b)) L hi rfl (18 - i)
  rw [show i + (18 - i) = 18 by omega] at q1
  obtain ⟨g, hg⟩ : ∃ g, 18 - i = g + 2 := ⟨16 - i, by omega⟩
  unfold readW
  rw [q1, hg, h Q _ rfl q2 q3 g]
  rfl
/-- a head's boxes -/
def headE (b : List Str) (m : Int) : Rt (List Str × Nat) := bindT (boxesW b "with" m 60 [] 0) fun r3 => boxesW b "is" 12 60 r3.1 r3.2
def errOf {α : Type} (x : Rt α) : Option Nat := match x with
  | .ok _ => none
  | .error e => some e
theorem errOf_some {α : Type} {x : Rt α} {e : Nat} (h : errOf x = some e) : x = .error e := by
  cases x with
  | ok a => cases h
  | error y => cases h; rfl
theorem loop_er {ws : List Str} {hd : Hds} {Q : Prg} {x g : Nat} (h : Q.2.2.2 < ws.length) (e : onceW ws hd Q = .error x) : loopW ws hd (g + 1) Q = .error x := by
  show (if Q.1 = [] ∨ Q.2.2.2 < ws.length then bindT (onceW ws hd Q) (loopW ws hd g) else Except.ok Q) = _
  rw [if_pos (.inr h), bindT_er e]
theorem once_two {ws pre r : List Str} {hd : Hds} {Q : Prg} {n : Str} (e : ws = pre ++ ("fun" : Str) :: n :: r) (q : Q.2.2.2 = pre.length) (l16 : Q.1.length < 16) (n1 : isName n = true) (dn : n ∉ Q.1.map (·.1)) :
    onceW ws hd Q = bindT (boxesW ws "with" (if Q.1 = [] then 0 else 4) (ws.length + 1) [] (pre.length + 2)) fun r3 => bindT (boxesW ws "is" 12 (ws.length + 1) r3.1 r3.2) fun r4 =>
      bindT (nodeW ws hd r4.1 10 r4.2) fun r5 => .ok (Q.1 ++ [(n, r4.1)], Q.2.1 ++ [(r3.1.length : Int), (r4.1.length : Int)], Q.2.2.1 ++ r5.1, r5.2) := by
  have e0 : ws.drop Q.2.2.2 = ("fun" : Str) :: (n :: r) := by rw [q, e, List.drop_left]
  have e1 := (atw_drop e0).2
  unfold onceW
  rw [if_neg (by omega), bindT_of (dueW_of e0 (by simp)), bindT_of (dueW_of e1 (by rw [n1, decide_eq_false dn]; rfl))]
  dsimp only
  rw [q]
theorem boxes_two {ws pre b : List Str} {en : Str} {m : Int} {bx : List Str} {k : Nat} (e : ws = pre ++ b) (hb : b.length ≤ 60) : boxesW ws en m (ws.length + 1) bx (pre.length + k) = shR pre.length (boxesW b en m 60 bx k) := by
  rw [boxes_sh e, boxes_fuel (ws.length + 1) 60 bx k (by rw [e, List.length_append]; omega) (by omega)]
/-- a head that can't stand -/
theorem bad_head {ws pre b : List Str} {hd : Hds} {Q : Prg} {n : Str} {x : Nat} (e : ws = pre ++ ("fun" : Str) :: n :: b) (q : Q.2.2.2 = pre.length) (l16 : Q.1.length < 16) (n1 : isName n = true) (dn : n ∉ Q.1.map (·.1)) (hb : b.length ≤ 60)
    (h : errOf (headE b (if Q.1 = [] then 0 else 4)) = some x) : onceW ws hd Q = .error (pre.length + 2 + x) := by
  rw [once_two e q l16 n1 dn]
  have e' : ws = (pre ++ [("fun" : Str), n]) ++ b := by rw [e]; simp
  have l' : (pre ++ [("fun" : Str), n]).length = pre.length + 2 := by simp
  have h := errOf_some h
  unfold headE at h
  have t := boxes_two (en := "with") (m := (if Q.1 = [] then 0 else 4)) (bx := []) (k := 0) e' hb
  rw [l', Nat.add_zero] at t
  rw [t]
  cases z : boxesW b "with" (if Q.1 = [] then 0 else 4) 60 [] 0 with
  | error y => rw [z] at h; cases h; rfl
  | ok r3 =>
    rw [z] at h
    have h : boxesW b "is" 12 60 r3.1 r3.2 = .error x := h
    show bindT (boxesW ws "is" 12 (ws.length + 1) r3.1 (pre.length + 2 + r3.2)) _ = _
    have t2 := boxes_two (en := "is") (m := 12) (bx := r3.1) (k := r3.2) e' hb
    rw [l'] at t2
    rw [t2, h]
    rfl
/-- a body that can't stand, or a word behind it -/
def bodE (b : List Str) (hd : Hds) : Option Nat := match nodeW b hd ["k"] 10 0 with
  | .error e => some e
  | .ok r => if r.2 < b.length ∧ b[r.2]? ≠ some ("fun" : Str) then some r.2 else none
theorem bad_body {ws pre b : List Str} {hd : Hds} {Q : Prg} {n : Str} {x g : Nat} (e : ws = pre ++ ("fun" : Str) :: n :: ("with" : Str) :: "k" :: "is" :: b) (q : Q.2.2.2 = pre.length) (l16 : Q.1.length < 15) (n1 : isName n = true) (dn : n ∉ Q.1.map (·.1))
    (h : bodE b hd = some x) : loopW ws hd (g + 2) Q = .error (pre.length + 5 + x) := by
  have kn : isName "k" = true := by decide +kernel
  have e' : ws = (pre ++ [("fun" : Str), n, "with", "k", "is"]) ++ b := by rw [e]; simp
  have l' : (pre ++ [("fun" : Str), n, "with", "k", "is"]).length = pre.length + 5 := by simp
  have d2 : ws.drop (pre.length + 2) = [] ++ ("with" : Str) :: ("k" :: "is" :: b) := by
    rw [show ws = (pre ++ [("fun" : Str), n]) ++ (("with" : Str) :: "k" :: "is" :: b) by rw [e]; simp, show pre.length + 2 = (pre ++ [("fun" : Str), n]).length by simp, List.drop_left]; rfl
  have d3 := (atw_drop d2).2
  have wl : pre.length + 5 + b.length = ws.length := by rw [e', List.length_append, l']
  have r3 := boxes_run with_no.1 (m := (if Q.1 = [] then 0 else 4 : Int)) (X := []) (bx := []) (f := ws.length + 1) d2 (fun x hx => (by cases hx)) (by simp) (by split <;> decide) (by simp)
  have d3' : ws.drop (pre.length + 2 + 1) = [("k" : Str)] ++ ("is" : Str) :: b := d3
  have r4 := boxes_run with_no.2 (m := 12) (X := ["k"]) (bx := []) (f := ws.length + 1) d3' (fun x hx => by rw [List.mem_singleton.mp hx]; exact kn) (by decide) (by decide) (by show 1 < ws.length + 1; omega)
  have lt : Q.2.2.2 < ws.length := by rw [q]; omega
  have on := once_two (hd := hd) e q (by omega) n1 dn
  rw [bindT_of r3] at on
  have r4' : boxesW ws "is" 12 (ws.length + 1) ([] ++ []) (pre.length + 2 + ([] : List Str).length + 1) = .ok (["k"], pre.length + 5 + 0) := r4
  rw [bindT_of r4'] at on
  have nd := node_sh (hd := hd) (bx := ["k"]) e' 10 0
  rw [l'] at nd
  unfold bodE at h
  cases z : nodeW b hd ["k"] 10 0 with
  | error y =>
    rw [z] at h nd
    cases h
    exact loop_er lt (by rw [on]; exact bindT_er nd)
  | ok r =>
    rw [z] at h nd
    dsimp only at h
    by_cases c : r.2 < b.length ∧ b[r.2]? ≠ some ("fun" : Str)
    · rw [if_pos c] at h
      cases h
      have on2 := on.trans (bindT_of nd)
      show (if Q.1 = [] ∨ Q.2.2.2 < ws.length then bindT (onceW ws hd Q) (loopW ws hd (g + 1)) else Except.ok Q) = _
      rw [if_pos (.inr lt), bindT_of on2]
      refine loop_er (by show pre.length + 5 + r.2 < ws.length; omega) ?_
      unfold onceW
      rw [if_neg (by rw [List.length_append, List.length_singleton]; omega)]
      refine bindT_er ?_
      show dueW _ ws (pre.length + 5 + r.2) = _
      have ds := due_sh (fit := fun w => decide (w = "fun")) e' r.2
      rw [l'] at ds
      rw [ds]
      have : dueW (fun w => decide (w = "fun")) b r.2 = .error r.2 := by
        unfold dueW
        cases y : b[r.2]? with
        | none => rfl
        | some w =>
          dsimp only
          rw [if_neg]
          intro z2
          exact c.2 (by rw [y, of_decide_eq_true z2])
      rw [this]
      rfl
    · rw [if_neg c] at h; cases h
/-- the words behind funs -/
def FunN (S : List Str) (l : List Str) : Prop := ∀ j, l[j]? = some ("fun" : Str) → ∀ w, l[j + 1]? = some w → w ∈ S
theorem FunN.line {S r : List Str} {n : Str} {t : List Str} (hn : n ∈ S) (ht : ∀ w ∈ n :: t, w ≠ ("fun" : Str)) (h : FunN S r) : FunN S (("fun" : Str) :: n :: t ++ r) := by
  intro j ej w ew
  have en : ∀ i, (("fun" : Str) :: n :: t ++ r)[i + 1]? = (n :: t ++ r)[i]? := fun i => rfl
  cases j with
  | zero =>
    have : (n :: t ++ r)[0]? = some w := ew
    cases this
    exact hn
  | succ j =>
    rw [en] at ej ew
    by_cases c : j < (n :: t).length
    · rw [List.getElem?_append_left c] at ej
      exact absurd rfl (ht _ (List.mem_of_getElem? ej))
    · rw [List.getElem?_append_right (by omega)] at ej ew
      exact h _ ej w (by rw [← ew]; congr 1; omega)
theorem headsT_keys {ws : List Str} : ∀ {m : Nat} {w : Str}, (hdOf (headsT ws m).1 w).isSome = true → ∃ j, j < m ∧ ws[j]? = some ("fun" : Str) ∧ ws.getD (j + 1) "" = w
  | 0, w, h => by cases h
  | m + 1, w, h => by
    unfold headsT at h
    by_cases c : ws[m]? = some ("fun" : Str)
    · rw [if_pos c] at h
      dsimp only at h
      by_cases d : (hdOf (headsT ws m).1 (ws.getD (m + 1) "")).isSome = true
      · rw [if_pos d] at h
        obtain ⟨j, a, b⟩ := headsT_keys h
        exact ⟨j, by omega, b⟩
      · rw [if_neg d] at h
        by_cases x : ws.getD (m + 1) "" = w
        · exact ⟨m, by omega, c, x⟩
        · have : (hdOf (headsT ws m).1 w).isSome = true := by
            unfold hdOf at h ⊢
            rw [List.lookup_append] at h
            cases q : List.lookup w (headsT ws m).1 with
            | some v => rfl
            | none =>
              rw [q, List.lookup_cons, show (w == ws.getD (m + 1) "") = false by simpa using fun z => x z.symm] at h
              cases h
          obtain ⟨j, a, b⟩ := headsT_keys this
          exact ⟨j, by omega, b⟩
    · rw [if_neg c] at h
      obtain ⟨j, a, b⟩ := headsT_keys h
      exact ⟨j, by omega, b⟩
theorem heads_none {S ws : List Str} (h : FunN S ws) {w : Str} (hw : w ∉ S) : hdOf (headsW ws) w = none := by
  cases e : hdOf (headsW ws) w with
  | none => rfl
  | some v =>
    exfalso
    obtain ⟨j, a, b, c⟩ := headsT_keys (ws := ws) (m := ws.length - 1) (w := w) (by unfold headsW at e; rw [e]; rfl)
    have hj : j + 1 < ws.length := by omega
    rw [getD_of (List.getElem?_eq_getElem hj)] at c
    exact hw (h j b w (by rw [List.getElem?_eq_getElem hj, c]))
theorem FunN.take {hs : List (Int × Int)} {nm : Nms} {Ls : List (List Str)} (L : PlainL hs nm Ls) {r : List Str} (h : FunN (nm.map (·.1)) r) : ∀ {i : Nat}, i ≤ hs.length → ∀ (m : Nat), m ≤ i → FunN (nm.map (·.1)) (((Ls.take i).drop (i - m)).flatten ++ r)
  | i, hi, 0, _ => by
    rw [List.drop_eq_nil_of_le (by rw [List.length_take]; omega)]
    exact h
  | i, hi, m + 1, hm => by
    obtain ⟨h', n, e1, e2, e3, n1, n2, _⟩ := L.get (i := i - (m + 1)) (by omega)
    have hl : i - (m + 1) < (Ls.take i).length := by rw [List.length_take, L.l]; omega
    have et : (Ls.take i)[i - (m + 1)] = lnP h'.1.toNat n := by
      have : (Ls.take i)[i - (m + 1)]? = some (lnP h'.1.toNat n) := by rw [List.getElem?_take, if_pos (by omega)]; exact e3
      exact (List.getElem?_eq_some_iff.mp this).2
    rw [List.drop_eq_getElem_cons hl, et, List.flatten_cons, List.append_assoc, show i - (m + 1) + 1 = i - m by omega]
    refine FunN.line (List.mem_map.mpr ⟨n, List.mem_of_getElem? e2, rfl⟩) (fun w hw => ?_) (FunN.take L h hi m (by omega))
    rcases List.mem_cons.mp hw with z | z
    · rw [z]; exact (name_ne n1).1
    rcases List.mem_append.mp z with z | z
    · exact (name_ne (n2 w (List.mem_of_mem_take z))).1
    rcases List.mem_cons.mp z with z | z
    · rw [z]; decide +kernel
    rcases List.mem_append.mp z with z | z
    · exact (name_ne (n2 w (List.mem_of_mem_drop z))).1
    · simp only [List.mem_cons, List.not_mem_nil, or_false] at z
      rcases z with z | z <;> rw [z] <;> decide +kernel

theorem lc_str {σ : L2.St} {H : Hp} {Q : VK} {g : TG} {z : Str} {t : TT} {te : TE} {vs : List Nat} (Pv : Addr → Nat → Hp → Prop) (h0 : ∀ D, H D = none → Pv D 0 (upd H D (.lst [])))
    (hs : ∀ D i c H', H D = none → z.cps[i]? = some c → Pv D i H' → g (.str ⟨#[c]⟩) (wipe σ vs) H' fun σ2 H2 => zWipe vs σ σ2 (t σ2 H2 fun k H3 => zIf k (te σ2 H3 fun y H4 => zAcc D y H4 (Pv D (i + 1))) (Pv D (i + 1) H3)))
    (hd : ∀ D H', H D = none → Pv D z.cps.size H' → Q (.ref D) H') : zLc (Its z) g t te vs σ H Q := fun D hD => by
  refine ⟨fun i m H' => m = z.cps.size - i ∧ i ≤ z.cps.size ∧ Pv D i H', ⟨_, rfl, Nat.zero_le _, h0 D hD⟩, fun i m H' h => ?_⟩
  obtain ⟨rfl, hi, p⟩ := h
  by_cases e : i < z.cps.size
  · refine .inr ⟨e, Pv D (i + 1), fun H2 p2 => ⟨z.cps.size - (i + 1), by omega, rfl, e, p2⟩, fun x H2 y => ?_⟩
    obtain ⟨rfl, cc, hc, rfl⟩ := y
    exact hs D i cc _ hD hc p
  · obtain rfl : i = z.cps.size := by omega
    exact .inl ⟨Nat.le_refl _, hd D _ hD p⟩
theorem boxes_cut {ws : List Str} {en : Str} {m : Int} (he : isName en = false) : ∀ {X bx : List Str} {f k : Nat}, ws.drop k = X → (∀ x ∈ X, isName x = true) → (bx ++ X).Nodup → ((bx ++ X).length : Int) ≤ m → X.length ≤ f → k ≤ ws.length → boxesW ws en m f bx k = .error (k + X.length)
  | [], bx, f, k, h, _, _, _, _, hk => boxes_end f bx k (List.drop_eq_nil_iff.mp h)
  | x :: X, bx, 0, k, h, _, _, _, hf, _ => by simp at hf
  | x :: X, bx, f + 1, k, h, hx, hd, hm, hf, hk => by
    obtain ⟨a, b⟩ := atw_drop h
    have hn := hx x List.mem_cons_self
    have lt := (List.getElem?_eq_some_iff.mp a).1
    unfold boxesW
    rw [if_neg (by rw [a]; intro z; rw [Option.some.inj z, he] at hn; cases hn)]
    rw [if_neg (by rw [List.length_append, List.length_cons] at hm; omega)]
    have nin : x ∉ bx := fun z => (List.nodup_append.mp hd).2.2 x z x List.mem_cons_self rfl
    rw [bindT_of (dueW_of h (by rw [hn, decide_eq_false nin]; rfl))]
    dsimp only
    have e : (bx ++ [x]) ++ X = bx ++ x :: X := by simp
    rw [boxes_cut he (X := X) (bx := bx ++ [x]) b (fun y hy => hx y (List.mem_cons_of_mem _ hy)) (by rw [e]; exact hd) (by rw [e]; exact hm) (by simpa using hf) (by omega), List.length_cons]
    congr 1
    omega
/-- a first head that ends too early -/
theorem cut_read {n : Str × List Str} {W : List Str} (n1 : isName n.1 = true) (n2 : ∀ w ∈ n.2, isName w = true) (n3 : n.2.Nodup) (b7 : n.2.length ≤ 12) {c : Nat} (c1 : 1 ≤ c) (c2 : c ≤ 4 + n.2.length) :
    readW ((("fun" : Str) :: n.1 :: ("with" : Str) :: (n.2 ++ ("is" : Str) :: W)).take c) = .error c ∧ ((("fun" : Str) :: n.1 :: ("with" : Str) :: (n.2 ++ ("is" : Str) :: W)).take c).length = c := by
  have len : ((("fun" : Str) :: n.1 :: ("with" : Str) :: (n.2 ++ ("is" : Str) :: W)).take c).length = c := by
    simp only [List.length_take, List.length_cons, List.length_append]; omega
  refine ⟨?_, len⟩
  generalize ew : (("fun" : Str) :: n.1 :: ("with" : Str) :: (n.2 ++ ("is" : Str) :: W)).take c = ws at len
  have on : onceW ws (headsW ws) ([], [], [], 0) = .error c := by
    unfold onceW
    rw [if_neg (by decide)]
    obtain ⟨c, rfl⟩ : ∃ d, c = d + 1 := ⟨c - 1, by omega⟩
    have d0 : ws.drop 0 = ("fun" : Str) :: (n.1 :: ("with" : Str) :: (n.2 ++ ("is" : Str) :: W)).take c := by rw [← ew]; rfl
    rw [bindT_of (dueW_of d0 (by simp))]
    have d1 := (atw_drop d0).2
    dsimp only
    cases c with
    | zero => exact bindT_er (by unfold dueW; rw [List.getElem?_eq_none (by omega)])
    | succ c =>
      have d1 : ws.drop 1 = n.1 :: (("with" : Str) :: (n.2 ++ ("is" : Str) :: W)).take c := d1
      rw [bindT_of (dueW_of d1 (by rw [n1]; rfl))]
      have d2 := (atw_drop d1).2
      dsimp only
      cases c with
      | zero => exact bindT_er (boxes_end _ _ _ (by omega))
      | succ c =>
        have d2 : ws.drop (1 + 1) = [] ++ ("with" : Str) :: (n.2 ++ ("is" : Str) :: W).take c := d2
        have r3 := boxes_run with_no.1 (m := (if ([] : List (Str × List Str)) = [] then 0 else 4 : Int)) (X := []) (bx := []) (f := ws.length + 1) d2 (fun x hx => (by cases hx)) (by simp) (by decide) (by simp)
        rw [bindT_of r3]
        have d3 := (atw_drop d2).2
        by_cases q : c ≤ n.2.length
        · rw [List.take_append_of_le_length q] at d3
          have := boxes_cut (m := 12) with_no.2 (bx := [] ++ []) (f := ws.length + 1) d3 (fun x hx => n2 x (List.mem_of_mem_take hx)) (by rw [List.append_nil, List.nil_append]; exact n3.sublist (List.take_sublist _ _)) (by rw [List.append_nil, List.nil_append, List.length_take]; omega) (by rw [List.length_take]; omega) (by omega)
          rw [List.length_take, Nat.min_eq_left q] at this
          refine bindT_er (this.trans ?_)
          congr 1
          omega
        · have hc : c = n.2.length + 1 := by omega
          have d3' : ws.drop (1 + 1 + 1) = n.2 ++ ("is" : Str) :: [] := by
            rw [d3, hc, List.take_length_add_append]; rfl
          have r4 := boxes_run with_no.2 (m := 12) (X := n.2) (bx := [] ++ []) (f := ws.length + 1) d3' n2 (by rw [List.append_nil, List.nil_append]; exact n3) (by rw [List.append_nil, List.nil_append]; omega) (by omega)
          refine (bindT_of r4).trans (bindT_er ?_)
          show bindT (dueW _ ws _) _ = _
          refine (bindT_er (e := c + 1 + 1 + 1) ?_)
          unfold dueW
          rw [List.getElem?_eq_none (by omega)]
          dsimp only
          congr 1
          omega
  unfold readW
  rw [loop_er (g := 17) (by show 0 < ws.length; omega) on]
  rfl
/-! #### what the law spoils -/
def clB (w : Str) : Bool := decide (w.cps.toList ≠ []) && (w.cps.toList.all fun x => decide (33 ≤ x) && decide (x < 128)) && decide (w.length ≤ 61)
theorem clB_of {w : Str} (h : clB w = true) : Clean w ∧ w.length ≤ 61 := by
  unfold clB at h
  simp only [Bool.and_eq_true, decide_eq_true_eq, List.all_eq_true] at h
  exact ⟨⟨h.1.1, h.1.2⟩, h.2⟩
/-- words that may stand in a text -/
def WsOK (ws : List Str) : Prop := ∀ w ∈ ws, Clean w ∧ w.length ≤ 61
theorem WsOK.app {a b : List Str} (h : WsOK a) (g : WsOK b) : WsOK (a ++ b) := fun w hw => (List.mem_append.mp hw).elim (h w) (g w)
theorem WsOK.cons {w : Str} {b : List Str} (h : Clean w ∧ w.length ≤ 61) (g : WsOK b) : WsOK (w :: b) := fun x hx => by
  rcases List.mem_cons.mp hx with z | z
  · rw [z]; exact h
  · exact g x z
theorem WsOK.all {b : List Str} (h : b.all clB = true) : WsOK b := fun w hw => clB_of (List.all_eq_true.mp h w hw)
theorem name_ok {w : Str} (h : isName w = true) : Clean w ∧ w.length ≤ 61 := ⟨clean_name h, by have := names_small h; omega⟩
def BN : List Str := ["Fun", "a1", "aaaaaaaaa", "a_b", "7", "-", "new", "fun", "call", "set", "ab-", "."]
theorem BN_all : BN.all (fun w => !isName w && clB w && decide (errOf (headE [("with" : Str), "q", w, "is", "0"] 0) = some 2) && decide (errOf (headE [("with" : Str), "q", w, "is", "0"] 4) = some 2)) = true := by decide +kernel
theorem BN_no {w : Str} (h : w ∈ BN) : isName w = false ∧ (Clean w ∧ w.length ≤ 61) ∧ ∀ c : Bool, errOf (headE [("with" : Str), "q", w, "is", "0"] (if c = true then 0 else 4)) = some 2 := by
  have := List.all_eq_true.mp BN_all w h
  simp only [Bool.and_eq_true, Bool.not_eq_true', decide_eq_true_eq] at this
  refine ⟨this.1.1.1, clB_of this.1.1.2, fun c => ?_⟩
  cases c with
  | true => exact this.1.2
  | false => exact this.2
/-- a head that can't stand ahead of the body 0 -/
structure BadH (nm : Nms) (k : Nat) (bad : List Str) (x : Nat) : Prop where
  ok : WsOK bad
  l : bad.length ≤ 20
  ne : bad ≠ []
  er : ∀ (ws pre : List Str) (hd : Hds) (Q : Prg), ws = pre ++ (bad ++ [("0" : Str)]) → Q.2.2.2 = pre.length → Q.1 = nm.take k → onceW ws hd Q = .error (pre.length + x)
theorem badH0 {nm : Nms} {hs : List (Int × Int)} {k : Nat} {n : Str × List Str} (N : NmOK nm hs) (hk : nm[k]? = some n) (h4 : nm.length ≤ 4) : BadH nm k ["func", n.1, "with", "is"] 0 := by
  refine ⟨.cons (clB_of (by decide +kernel)) (.cons (name_ok (N.n _ (List.mem_of_getElem? hk)).1) (.all (by decide +kernel))), by show 4 ≤ 20; decide, by simp, fun ws pre hd Q e q1 q2 => ?_⟩
  have hl := (List.getElem?_eq_some_iff.mp hk).1
  unfold onceW
  rw [if_neg (by rw [q2, List.length_take]; omega)]
  refine bindT_er ?_
  unfold dueW
  have : ws[Q.2.2.2]? = some ("func" : Str) := by rw [q1, e, List.getElem?_append_right (Nat.le_refl _), Nat.sub_self]; rfl
  rw [this]
  dsimp only
  rw [if_neg (by decide +kernel), q1, Nat.add_zero]
theorem badH1 {nm : Nms} {hs : List (Int × Int)} {k : Nat} {w : Str} (N : NmOK nm hs) (hk : k < nm.length) (h4 : nm.length ≤ 4) (h : w ∈ BN ∨ (0 < k ∧ ∃ n, nm[0]? = some n ∧ w = n.1)) : BadH nm k ["fun", w, "with", "is"] 1 := by
  have cw : Clean w ∧ w.length ≤ 61 := by
    rcases h with h | ⟨_, n, hn, rfl⟩
    · exact (BN_no h).2.1
    · exact name_ok (N.n _ (List.mem_of_getElem? hn)).1
  refine ⟨.cons (clB_of (by decide +kernel)) (.cons cw (.all (by decide +kernel))), by show 4 ≤ 20; decide, by simp, fun ws pre hd Q e q1 q2 => ?_⟩
  unfold onceW
  rw [if_neg (by rw [q2, List.length_take]; omega)]
  have d0 : ws.drop Q.2.2.2 = ("fun" : Str) :: w :: ["with", "is", "0"] := by rw [q1, e, List.drop_left]; rfl
  rw [bindT_of (dueW_of d0 (by simp))]
  refine bindT_er ?_
  have d1 := (atw_drop (atw_drop d0).2).1
  dsimp only
  unfold dueW
  rw [d1]
  dsimp only
  rw [if_neg, q1]
  intro z
  obtain ⟨z1, z2⟩ := Bool.and_eq_true_iff.mp z
  rcases h with h | ⟨k0, n, hn, rfl⟩
  · rw [(BN_no h).1] at z1; cases z1
  · have : n ∈ nm.take k := List.mem_of_getElem? (i := 0) (by rw [List.getElem?_take, if_pos k0]; exact hn)
    rw [q2, decide_eq_true (List.mem_map.mpr ⟨n, this, rfl⟩)] at z2
    cases z2
theorem badH2 {nm : Nms} {hs : List (Int × Int)} {k : Nat} {n : Str × List Str} {b : List Str} {x : Nat} (N : NmOK nm hs) (hk : nm[k]? = some n) (h4 : nm.length ≤ 4) (hb : WsOK b) (hl : b.length ≤ 18) (h : errOf (headE (b ++ [("0" : Str)]) (if k = 0 then 0 else 4)) = some x) : BadH nm k (("fun" : Str) :: n.1 :: b) (2 + x) := by
  have nn := N.n _ (List.mem_of_getElem? hk)
  have hkl := List.getElem?_eq_some_iff.mp hk
  refine ⟨.cons (clB_of (by decide +kernel)) (.cons (name_ok nn.1) hb), by simp only [List.length_cons]; omega, by simp, fun ws pre hd Q e q1 q2 => ?_⟩
  have hk1 := hkl.1
  have hq : (Q.1 = []) = (k = 0) := by
    rw [q2]
    refine propext ⟨fun z => ?_, fun z => by rw [z]; rfl⟩
    have := congrArg List.length z
    rw [List.length_take, List.length_nil] at this
    omega
  have := bad_head (ws := ws) (pre := pre) (b := b ++ [("0" : Str)]) (hd := hd) (Q := Q) (n := n.1) (x := x) (by rw [e]; simp) q1 (by rw [q2, List.length_take]; omega) nn.1 (fun z => by
    rw [q2, List.map_take] at z
    obtain ⟨j, hj, ej⟩ := List.mem_take_iff_getElem.mp z
    have : (nm.map (·.1))[k]'(by rw [List.length_map]; exact hkl.1) = n.1 := by rw [List.getElem_map, hkl.2]
    have := (List.getElem_inj N.d).mp (ej.trans this.symm)
    omega) (by rw [List.length_append, List.length_singleton]; omega) (by simp only [hq]; exact h)
  rw [this, Nat.add_assoc]
/-- a body that can't stand in a function of the box k -/
structure BadB (S : List Str) (bad : List Str) (x : Nat) : Prop where
  ok : WsOK bad
  l : bad.length ≤ 60
  nf : ∀ w ∈ bad, w ≠ ("fun" : Str)
  er : ∀ hd : Hds, (∀ w, w ∉ S → hdOf hd w = none) → bodE bad hd = some x
def STR : List Str := ["zz", "yy", "xx", "ww", "vv"]
def rp (n : Nat) (xs : List Str) : List Str := (List.replicate n xs).flatten
def BODS (s : Str) : List (List Str × Nat) := ([(["with"], 0), (["zz"], 0), (["01"], 0), (["-0"], 0), (["add", "1", "is"], 2), (["+1"], 0), (["set", "0"], 1)] : List (List Str × Nat)) ++ ([(["set", "zz", "0"], 1), (["all", "0"], 1), (["all", "13"], 1), (["all", "01", "1"], 1)] : List (List Str × Nat)) ++
  ([(["all", "k", "1"], 1), (["pick", "1", "k", "1"], 1), (["pick", "13", "k"], 1), (["pick", "-1"], 1)] : List (List Str × Nat)) ++ ([(["call", s], 1), (["call", "0"], 1), (["call", "call"], 1), ([repS "9" 61], 0), (["get", "k"], 0)] : List (List Str × Nat)) ++
  ([(rp 10 ["fail"] ++ [("k" : Str)], 10), (rp 10 ["all", "1"] ++ [("k" : Str)], 20), (["k", "k"], 1), (["0", "is"], 1)] : List (List Str × Nat)) ++ ([(["add", "k", "k", "k"], 3), (["new", "0"], 1), (["number", "1"], 0), (["set", "k", "loop", "0"], 4)] : List (List Str × Nat)) ++
  ([(rp 10 ["set", "k"] ++ [("k" : Str)], 20), (["1_0"], 0)] : List (List Str × Nat)) ++ ([(rp 9 ["pick", "2", "0", "0"] ++ [("pick" : Str), "2", "k"], 38)] : List (List Str × Nat)) ++ ([(rp 9 ["loop", "0"] ++ [("loop" : Str), "k"], 19), (rp 9 ["put", "1", "k"] ++ [("put" : Str), "1"], 28)] : List (List Str × Nat)) ++
  ([(rp 10 ["size"] ++ [("k" : Str)], 10), (rp 10 ["add", "k"], 19), (rp 10 ["push"] ++ [("k" : Str)], 10)] : List (List Str × Nat))
def callB (s : Str) (b : List Str) : Bool := (List.range b.length).all fun i => !(decide (kindW (b.getD i "") = some 6) && isName (b.getD (i + 1) "")) || decide (b.getD (i + 1) "" = s)
theorem callB_of {s : Str} {b : List Str} (h : callB s b = true) {hd : Hds} (hn : hdOf hd s = none) : CallSame b hd [] := fun i x y e1 e2 e3 e4 => by
  have := List.all_eq_true.mp h i (List.mem_range.mpr (List.getElem?_eq_some_iff.mp e1).1)
  rw [getD_of e1, getD_of e3, e4, decide_eq_true e2] at this
  have : y = s := by simpa using this
  rw [this, hn]; rfl
theorem BODS_all : STR.all (fun s => (BODS s).all fun e => decide (bodE e.1 [] = some e.2) && e.1.all clB && decide (e.1.length ≤ 60) && e.1.all (fun w => !decide (w = "fun")) && callB s e.1) = true := by decide +kernel
theorem BODS_bad {S : List Str} {s : Str} (hs : s ∈ STR) (hn : s ∉ S) {e : List Str × Nat} (he : e ∈ BODS s) : BadB S e.1 e.2 := by
  have := List.all_eq_true.mp (List.all_eq_true.mp BODS_all s hs) e he
  simp only [Bool.and_eq_true, decide_eq_true_eq] at this
  obtain ⟨⟨⟨⟨h1, h2⟩, h3⟩, h4⟩, h5⟩ := this
  refine ⟨.all h2, h3, fun w hw z => ?_, fun hd hh => ?_⟩
  · have := List.all_eq_true.mp h4 w hw
    rw [decide_eq_true z] at this
    cases this
  · unfold bodE at h1 ⊢
    rw [node_hd (callB_of h5 (hh s hn))]
    exact h1
/-- texts, and the words that can't stand there -/
def SHORT : List Str := LETL.take 17 |>.map fun c => ("fun " : Str) ++ ch1 c ++ (" with is 0" : Str)
def TXS : List (Str × Option Nat) := ([(Txt.join " " (SHORT.take 16), none), (Txt.join " " SHORT, some 80), ("fun main with is call main 1", some 6)] : List (Str × Option Nat)) ++ ([("fun main with is call f 1 fun f a with is 0 fun f with is 0", some 14)] : List (Str × Option Nat)) ++ ([("fun main with is call f fun f with is 0 fun f a with is 0", some 12)] : List (Str × Option Nat)) ++
  ([("fun main with is call f 1 2 fun f a b", some 12), ("fun main with is call f 1 fun f a b is 0", some 7)] : List (Str × Option Nat)) ++ ([(("fun main with is 0 fun f a with is" : Str) ++ repS " call f" 10 ++ (" a" : Str), some 30)] : List (Str × Option Nat))
theorem TXS_all : TXS.all (fun e => decide (errOf (readW (wordsT e.1)) = e.2) && PyData.strOk e.1 && decide (e.1.length ≤ 400)) = true := by decide +kernel
def TxAt (H : Hp) : List (Str × Option Nat) → List V → Prop
  | [], vs => vs = []
  | e :: es, vs => ∃ t us, vs = .ref t :: us ∧ H t = some (.tup [.str e.1, match e.2 with | none => .non | some i => .int (i : Int)]) ∧ TxAt H es us
theorem TxAt.same {H H' : Hp} (S : Same H H') : ∀ {es : List (Str × Option Nat)} {vs : List V}, TxAt H es vs → TxAt H' es vs
  | [], _, h => h
  | _ :: _, _, ⟨t, us, e, h1, h2⟩ => ⟨t, us, e, S _ _ h1, h2.same S⟩
theorem TxAt.mono {H H' : Hp} (S : TupS H H') : ∀ {es : List (Str × Option Nat)} {vs : List V}, TxAt H es vs → TxAt H' es vs
  | [], _, h => h
  | _ :: _, _, ⟨t, us, e, h1, h2⟩ => ⟨t, us, e, S _ _ h1, h2.mono S⟩
theorem TxAt.len {H : Hp} : ∀ {es : List (Str × Option Nat)} {vs : List V}, TxAt H es vs → vs.length = es.length
  | [], _, h => by rw [show _ = [] from h]; rfl
  | _ :: _, _, ⟨t, us, e, h1, h2⟩ => by rw [e, List.length_cons, List.length_cons, h2.len]
theorem TxAt.app {H : Hp} {e : Str × Option Nat} {t : Addr} (h1 : H t = some (.tup [.str e.1, match e.2 with | none => .non | some i => .int (i : Int)])) : ∀ {es : List (Str × Option Nat)} {vs : List V}, TxAt H es vs → TxAt H (es ++ [e]) (vs ++ [.ref t])
  | [], _, h => by rw [show _ = [] from h]; exact ⟨t, [], rfl, h1, rfl⟩
  | _ :: _, _, ⟨b, us, e, g1, g2⟩ => by rw [e]; exact ⟨b, us ++ [.ref t], rfl, g1, g2.app h1⟩
theorem TxAt.get {H : Hp} : ∀ {es : List (Str × Option Nat)} {vs : List V} {i : Nat} {v : V}, TxAt H es vs → vs[i]? = some v → ∃ t e, v = .ref t ∧ es[i]? = some e ∧ H t = some (.tup [.str e.1, match e.2 with | none => .non | some i => .int (i : Int)])
  | [], _, _, _, h, e => by rw [show _ = [] from h] at e; simp at e
  | x :: _, _, 0, _, ⟨t, us, e0, h1, _⟩, e => by rw [e0] at e; cases e; exact ⟨t, x, rfl, rfl, h1⟩
  | _ :: es, _, i + 1, _, ⟨t, us, e0, _, h2⟩, e => by
    rw [e0] at e
    obtain ⟨a', l', x, y, z⟩ := TxAt.get (es := es) (i := i) h2 (by simpa using e)
    exact ⟨a', l', x, by simpa using y, z⟩
/-- pairs of words and a number -/
def PrAt (H : Hp) : List (List Str × Nat) → List V → Prop
  | [], vs => vs = []
  | e :: es, vs => ∃ t a us, vs = .ref t :: us ∧ H t = some (.tup [.ref a, .int (e.2 : Int)]) ∧ H a = some (.lst (e.1.map V.str)) ∧ PrAt H es us
theorem PrAt.same {H H' : Hp} (S : Same H H') : ∀ {es : List (List Str × Nat)} {vs : List V}, PrAt H es vs → PrAt H' es vs
  | [], _, h => h
  | _ :: _, _, ⟨t, a, us, e, h1, h2, h3⟩ => ⟨t, a, us, e, S _ _ h1, S _ _ h2, h3.same S⟩
theorem PrAt.app1 {H : Hp} {ws : List Str} {i : Nat} {t a : Addr} (h1 : H t = some (.tup [.ref a, .int (i : Int)])) (h2 : H a = some (.lst (ws.map V.str))) : ∀ {es : List (List Str × Nat)} {vs : List V}, PrAt H es vs → PrAt H (es ++ [(ws, i)]) (vs ++ [.ref t])
  | [], _, h => by rw [show _ = [] from h]; exact ⟨t, a, [], rfl, h1, h2, rfl⟩
  | _ :: _, _, ⟨b, c, us, e, g1, g2, g3⟩ => by rw [e]; exact ⟨b, c, us ++ [.ref t], rfl, g1, g2, g3.app1 h1 h2⟩
theorem PrAt.app {H : Hp} {fs : List (List Str × Nat)} {us : List V} (h : PrAt H fs us) : ∀ {es : List (List Str × Nat)} {vs : List V}, PrAt H es vs → PrAt H (es ++ fs) (vs ++ us)
  | [], _, g => by rw [show _ = [] from g]; exact h
  | _ :: _, _, ⟨b, c, ts, e, g1, g2, g3⟩ => by rw [e]; exact ⟨b, c, ts ++ us, rfl, g1, g2, PrAt.app h g3⟩
theorem PrAt.len {H : Hp} : ∀ {es : List (List Str × Nat)} {vs : List V}, PrAt H es vs → vs.length = es.length
  | [], _, h => by rw [show _ = [] from h]; rfl
  | _ :: _, _, ⟨t, a, us, e, h1, h2, h3⟩ => by rw [e, List.length_cons, List.length_cons, h3.len]
theorem PrAt.get {H : Hp} : ∀ {es : List (List Str × Nat)} {vs : List V} {i : Nat} {v : V}, PrAt H es vs → vs[i]? = some v → ∃ t a e, v = .ref t ∧ es[i]? = some e ∧ H t = some (.tup [.ref a, .int (e.2 : Int)]) ∧ H a = some (.lst (e.1.map V.str))
  | [], _, _, _, h, e => by rw [show _ = [] from h] at e; simp at e
  | x :: _, _, 0, _, ⟨t, a, us, e0, h1, h2, _⟩, e => by rw [e0] at e; cases e; exact ⟨t, a, x, rfl, rfl, h1, h2⟩
  | _ :: es, _, i + 1, _, ⟨t, a, us, e0, _, _, h2⟩, e => by
    rw [e0] at e
    obtain ⟨a', b', l', x, y, z⟩ := PrAt.get (es := es) (i := i) h2 (by simpa using e)
    exact ⟨a', b', l', x, by simpa using y, z⟩
theorem lineW_get {all : Nms} : ∀ {hs : List (Int × Int)} {ns : Nms} {bs : List Nd} {i : Nat} {h : Int × Int} {n : Str × List Str} {b : Nd}, hs[i]? = some h → ns[i]? = some n → bs[i]? = some b → (lineW all hs ns bs)[i]? = some (funW all h n b)
  | _ :: _, _ :: _, _ :: _, 0, _, _, _, e1, e2, e3 => by cases e1; cases e2; cases e3; rfl
  | _ :: hs, _ :: ns, _ :: bs, i + 1, h, n, b, e1, e2, e3 => by
    show (_ :: lineW all hs ns bs)[i + 1]? = _
    rw [List.getElem?_cons_succ]
    exact lineW_get (by simpa using e1) (by simpa using e2) (by simpa using e3)
theorem lineW_lenE {all : Nms} : ∀ {hs : List (Int × Int)} {ns : Nms} {bs : List Nd}, Al hs ns bs → (lineW all hs ns bs).length = hs.length
  | _, _, _, .nil => rfl
  | _, _, _, .cons A => by show (_ :: lineW all _ _ _).length = _; rw [List.length_cons, lineW_lenE A, List.length_cons]
/-- a line is cut behind its is -/
theorem line_cut {nm : Nms} {h : Int × Int} {n : Str × List Str} {b : Nd} (n1 : isName n.1 = true) (n2 : ∀ w ∈ n.2, isName w = true) (hl : h.1.toNat ≤ n.2.length) : ∃ pre W : List Str, funW nm h n b = pre ++ ("is" : Str) :: W ∧ pre.length = 3 + n.2.length ∧ (∀ w ∈ pre, w ≠ ("is" : Str)) ∧ pre ++ [("is" : Str), "0"] = lnP h.1.toNat n := by
  refine ⟨("fun" : Str) :: n.1 :: (n.2.take h.1.toNat ++ ("with" : Str) :: n.2.drop h.1.toNat), wordsN nm n.2 b, ?_, ?_, fun w hw => ?_, ?_⟩
  · show ("fun" : Str) :: n.1 :: (n.2.take h.1.toNat ++ ("with" : Str) :: (n.2.drop h.1.toNat ++ ("is" : Str) :: wordsN nm n.2 b)) = _
    simp
  · simp only [List.length_cons, List.length_append, List.length_take, List.length_drop]; omega
  · rcases List.mem_cons.mp hw with z | z
    · rw [z]; decide +kernel
    rcases List.mem_cons.mp z with z | z
    · rw [z]; exact (name_ne n1).2.2
    rcases List.mem_append.mp z with z | z
    · exact (name_ne (n2 w (List.mem_of_mem_take z))).2.2
    rcases List.mem_cons.mp z with z | z
    · rw [z]; decide +kernel
    · exact (name_ne (n2 w (List.mem_of_mem_drop z))).2.2
  · unfold lnP; simp
def lnsP (hs : List (Int × Int)) (nm : Nms) : List (List Str) := List.zipWith (fun h n => lnP h.1.toNat n) hs nm
theorem lnsP_at {hs : List (Int × Int)} {nm : Nms} {i : Nat} {h : Int × Int} {n : Str × List Str} (e1 : hs[i]? = some h) (e2 : nm[i]? = some n) : (lnsP hs nm)[i]? = some (lnP h.1.toNat n) := by
  unfold lnsP
  rw [List.getElem?_zipWith, e1, e2]
theorem plain_of {hs : List (Int × Int)} {nm : Nms} (N : NmOK nm hs) (h : HeadsOK hs) : PlainL hs nm (lnsP hs nm) := ⟨N, h, by unfold lnsP; rw [List.length_zipWith, N.l, Nat.min_self], fun i h n e1 e2 => lnsP_at e1 e2⟩
theorem cut_takeX {xs : List V} (j : Nat) : cutV xs none (some (j : Int)) = xs.take j := by
  unfold cutV
  rw [HT.sIx_none, HT.sIx_nat, List.drop_zero, Nat.sub_zero]
  by_cases h : j ≤ xs.length
  · rw [Nat.min_eq_left h]
  · rw [Nat.min_eq_right (by omega), List.take_of_length_le (by omega), List.take_of_length_le (by omega)]
theorem PlainL.ws {hs : List (Int × Int)} {nm : Nms} {Ls : List (List Str)} (L : PlainL hs nm Ls) : ∀ {i : Nat}, i ≤ hs.length → WsOK (Ls.take i).flatten ∧ (Ls.take i).flatten.length ≤ 17 * i
  | 0, _ => ⟨fun w h => (by cases h), Nat.le_refl _⟩
  | i + 1, hi => by
    obtain ⟨h, n, e1, e2, e3, n1, n2, n3, b3, b6, b7⟩ := L.get (i := i) (by omega)
    obtain ⟨a, b⟩ := L.ws (i := i) (by omega)
    rw [flatten_take e3]
    have kw := clean_kw
    have l4 : ("fun" : Str).length ≤ 61 ∧ ("with" : Str).length ≤ 61 ∧ ("is" : Str).length ≤ 61 := by decide +kernel
    refine ⟨a.app fun w hw => ?_, ?_⟩
    · rcases List.mem_cons.mp (show w ∈ ("fun" : Str) :: n.1 :: (n.2.take h.1.toNat ++ ("with" : Str) :: (n.2.drop h.1.toNat ++ [("is" : Str), "0"])) from hw) with z | z
      · rw [z]; exact ⟨kw.1, l4.1⟩
      rcases List.mem_cons.mp z with z | z
      · rw [z]; exact name_ok n1
      rcases List.mem_append.mp z with z | z
      · exact name_ok (n2 w (List.mem_of_mem_take z))
      rcases List.mem_cons.mp z with z | z
      · rw [z]; exact ⟨kw.2.1, l4.2.1⟩
      rcases List.mem_append.mp z with z | z
      · exact name_ok (n2 w (List.mem_of_mem_drop z))
      · exact WsOK.all (b := [("is" : Str), "0"]) (by decide +kernel) w z
    · have : (lnP h.1.toNat n).length ≤ 17 := by
        unfold lnP
        simp only [List.length_cons, List.length_append, List.length_nil, List.length_take, List.length_drop]
        omega
      rw [List.length_append]
      omega
theorem read_badH {hs : List (Int × Int)} {nm : Nms} {Ls : List (List Str)} (L : PlainL hs nm Ls) {k x : Nat} {bad : List Str} (hk : k < hs.length) (B : BadH nm k bad x) : readW ((Ls.take k).flatten ++ (bad ++ [("0" : Str)])) = .error ((Ls.take k).flatten.length + x) := by
  have := L.h.2.1
  refine read_more L (by omega) (by omega) (by simp) fun Q hd ehd q1 q2 g => ?_
  exact loop_er (by rw [q2]; simp) (B.er _ _ hd Q rfl q2 q1)
theorem read_badB {hs : List (Int × Int)} {nm : Nms} {Ls : List (List Str)} (L : PlainL hs nm Ls) (h4 : hs.length ≤ 4) {k x : Nat} {n : Str × List Str} {bad : List Str} (hn : nm[k]? = some n) (B : BadB (nm.map (·.1)) bad x) :
    readW ((Ls.take k).flatten ++ ([("fun" : Str), n.1, "with", "k", "is"] ++ bad)) = .error ((Ls.take k).flatten.length + 5 + x) := by
  have nl := L.n.l
  have hk := List.getElem?_eq_some_iff.mp hn
  have hkl := hk.1
  have n1 := (L.n.n _ (List.mem_of_getElem? hn)).1
  refine read_more L (by omega) (by omega) (by simp) fun Q hd ehd q1 q2 g => ?_
  refine bad_body (n := n.1) (b := bad) rfl q2 (by rw [q1, List.length_take]; omega) n1 (fun z => ?_) (B.er hd fun w hw => ?_)
  · rw [q1, List.map_take] at z
    obtain ⟨j, hj, ej⟩ := List.mem_take_iff_getElem.mp z
    have : (nm.map (·.1))[k]'(by rw [List.length_map]; exact hkl) = n.1 := by rw [List.getElem_map, hk.2]
    have := (List.getElem_inj L.n.d).mp (ej.trans this.symm)
    omega
  · rw [ehd]
    refine heads_none ?_ hw
    have F : FunN (nm.map (·.1)) ([("fun" : Str), n.1, "with", "k", "is"] ++ bad) := by
      have := FunN.line (S := nm.map (·.1)) (n := n.1) (t := [("with" : Str), "k", "is"] ++ bad) (r := []) (List.mem_map.mpr ⟨n, List.mem_of_getElem? hn, rfl⟩) (fun w hw => ?_) (fun j e => by cases e)
      · rw [List.append_nil] at this; exact this
      · rcases List.mem_cons.mp hw with z | z
        · rw [z]; exact (name_ne n1).1
        rcases List.mem_append.mp z with z | z
        · simp only [List.mem_cons, List.not_mem_nil, or_false] at z
          rcases z with z | z | z <;> rw [z] <;> decide +kernel
        · exact B.nf w z
    have := FunN.take L F (i := k) (by omega) k (Nat.le_refl _)
    rw [Nat.sub_self, List.drop_zero] at this
    exact this
/-! ### the promises -/
def q_words_of (Z : Adr) (a : V) (H : Hp) (Q : VK) (E : XK) : Prop := (NoStr H a ∧ ∀ d H', Same H H' → XtAt H' d 0 → E (.ref Z.c_NoText) (some d) H') ∨ q_words_of_s Z a H Q E
def q_read_text (Z : Adr) (a : V) (H : Hp) (Q : VK) (E : XK) : Prop := (NoStr H a ∧ ∀ d H', Same H H' → XtAt H' d 0 → E (.ref Z.c_NoText) (some d) H') ∨ q_read_text_s Z a H Q E
def FitT (t : Str) : Prop := t.length ≤ 500000 ∧ PyData.strOk t = true
def RefW (H : Hp) (v : V) (i : Nat) : Prop := (NoStr H v ∧ i = 0) ∨ ∃ t, v = .str t ∧ FitT t ∧ readW (wordsT t) = .error i
theorem fit_line {ws : List Str} (h : WsOK ws) (hl : ws.length ≤ 200) : FitT (Txt.join " " ws) ∧ wordsT (Txt.join " " ws) = ws ∧ (ws.map (·.length)).sum + ws.length * (" " : Str).length ≤ 16777216 ∧ (Txt.join " " ws).length ≤ 12400 := by
  have one : (" " : Str).length = 1 := by decide +kernel
  have a := sum_len (l := ws) (m := 61) fun w hw => (h w hw).2
  have b := join_le " " ws
  rw [one] at b ⊢
  refine ⟨⟨by omega, ?_⟩, words_line fun w hw => (h w hw).1, by omega, by omega⟩
  rw [txt_join]
  exact strOk_join (by decide +kernel) fun w hw => (h w hw).1.ok
theorem fit_lines {ls : List (List Str)} (h : ∀ l ∈ ls, WsOK l ∧ l.length ≤ 200) (hl : ls.length ≤ 16) : FitT (Txt.join "\n" (ls.map (Txt.join " "))) ∧ wordsT (Txt.join "\n" (ls.map (Txt.join " "))) = ls.flatten ∧ ((ls.map (Txt.join " ")).map (·.length)).sum + (ls.map (Txt.join " ")).length * ("\n" : Str).length ≤ 16777216 := by
  have one : ("\n" : Str).length = 1 := by decide +kernel
  have a := sum_len (l := ls.map (Txt.join " ")) (m := 12400) fun w hw => by
    obtain ⟨l, hm, rfl⟩ := List.mem_map.mp hw
    exact (fit_line (h l hm).1 (h l hm).2).2.2.2
  have b := join_le "\n" (ls.map (Txt.join " "))
  rw [one] at b ⊢
  rw [List.length_map] at a b ⊢
  refine ⟨⟨by omega, ?_⟩, ?_, by omega⟩
  · rw [txt_join]
    exact strOk_join (by decide +kernel) fun w hw => by
      obtain ⟨l, hm, rfl⟩ := List.mem_map.mp hw
      exact (fit_line (h l hm).1 (h l hm).2).1.2
  · rw [wordsT_eq, txt_join, nl_is, ws0_join (.inr rfl), List.map_map]
    have : ls.map ((fun p : Str => ws0 p.cps.toList) ∘ Txt.join " ") = ls.map fun l => l.map fun w => w.cps.toList := List.map_congr_left fun l hm => ws0_line fun w hw => ((h l hm).1 w hw).1
    rw [this, ← List.map_flatten, map_ofL]
def q_Lcaught (Z : Adr) (a : V) (H : Hp) (Q : VK) (E : XK) : Prop := TabsZ Z H ∧ ((∃ i : Nat, RefW H a i ∧ ∀ p d H', Same H H' → Kept H' p Z.c_NoText d [("at", .int (i : Int))] → Q (.ref p) H') ∨ ∃ t r, a = .str t ∧ FitT t ∧ readW (wordsT t) = .ok r ∧ ∀ H', Same H H' → Q .non H')
def q_Lright (Z : Adr) (a b : V) (H : Hp) (Q : VK) (E : XK) : Prop := ∃ (p d : Addr) (i : Nat), a = .ref p ∧ b = .int (i : Int) ∧ Kept H p Z.c_NoText d [("at", .int (i : Int))] ∧ ∀ H', Same H H' → Q (.bl true) H'
def q_Lbad_names (Z : Adr) (H : Hp) (Q : VK) (E : XK) : Prop := ∀ l H', Same H H' → H l = none → H' l = some (.lst (BN.map V.str)) → Q (.ref l) H'
def q_Lbad_heads (Z : Adr) (a b c : V) (H : Hp) (Q : VK) (E : XK) : Prop := ∃ (p tn : Addr) (vs : List V) (nm : Nms) (hs : List (Int × Int)) (k : Nat) (n : Int), a = .ref p ∧ b = .ref tn ∧ c = .int (k : Int) ∧ H tn = some (.tup vs) ∧ NamesAt H nm vs ∧ NmOK nm hs ∧ k < nm.length ∧ nm.length ≤ 4 ∧ Pl n H p ∧ n ≤ 100000000000 ∧
  ∀ (t l : Addr) (bad : List Str) (x : Nat) H', But p H H' → Pl (n + 5) H' p → H' t = some (.tup [.ref l, .int (x : Int)]) → H' l = some (.lst (bad.map V.str)) → BadH nm k bad x → Q (.ref t) H'
def q_Lbad_bodies (Z : Adr) (a b : V) (H : Hp) (Q : VK) (E : XK) : Prop := ∃ (p tn : Addr) (vs : List V) (nm : Nms) (n : Int), a = .ref p ∧ b = .ref tn ∧ H tn = some (.tup vs) ∧ NamesAt H nm vs ∧ nm.length ≤ 4 ∧ Pl n H p ∧ n ≤ 100000000000 ∧
  ∀ (t l : Addr) (bad : List Str) (x : Nat) H', But p H H' → Pl (n + 1) H' p → H' t = some (.tup [.ref l, .int (x : Int)]) → H' l = some (.lst (bad.map V.str)) → BadB (nm.map (·.1)) bad x → Q (.ref t) H'
def q_Ltexts (Z : Adr) (H : Hp) (Q : VK) (E : XK) : Prop := ∀ l vs H', Same H H' → H l = none → H' l = some (.lst vs) → TxAt H' TXS vs → Q (.ref l) H'
def q_Lspoilt (Z : Adr) (a b c : V) (H : Hp) (Q : VK) (E : XK) : Prop := ∃ (p tn ll : Addr) (vs us : List V) (nm : Nms) (hs : List (Int × Int)) (Ls : List (List Str)) (n : Int), a = .ref p ∧ b = .ref tn ∧ c = .ref ll ∧ H tn = some (.tup vs) ∧ NamesAt H nm vs ∧ H ll = some (.lst us) ∧ LinesG H Ls us ∧ PlainL hs nm Ls ∧ hs.length ≤ 4 ∧ Pl n H p ∧ n ≤ 10000000000 ∧
  ∀ (t l : Addr) (ws : List Str) (x : Nat) H', But p H H' → Pl (n + 10) H' p → H' t = some (.tup [.ref l, .int (x : Int)]) → H' l = some (.lst (ws.map V.str)) → readW ws = .error x → WsOK ws → ws.length ≤ 200 → Q (.ref t) H'
def q_Llone (Z : Adr) (a b : V) (H : Hp) (Q : VK) (E : XK) : Prop := ∃ (ll : Addr) (us : List V) (nm : Nms) (hs : List (Int × Int)) (bs : List Nd), b = .ref ll ∧ H ll = some (.lst us) ∧ LinesG H (lineW nm hs nm bs) us ∧ PrgOK nm hs bs ∧
  ∀ (l : Addr) (vs : List V) (Ls : List (List Str)) H', Same H H' → H l = none → H' l = some (.lst vs) → LinesG H' Ls vs → PlainL hs nm Ls → Q (.ref l) H'
def q_law (Z : Adr) (v : V) (H : Hp) (Q : VK) (E : XK) : Prop := ∃ (a : Addr) (ns : List Int), v = .ref a ∧ TabsZ Z H ∧ Scr Z.K H a ns ∧ ns.length ≤ 63 ∧ ∀ H', Q (.bl true) H'

def sp_NoText_init (Z : Adr) : Sp := Sp2 (q_NoText_init Z)
theorem cl_NoText_init {Z : Adr} {a0 a1 : V} {H : Hp} {Q : VK} {E : XK} (h : q_NoText_init Z a0 a1 H Q E) : sp_NoText_init Z [a0, a1] H Q E := ⟨a0, a1, rfl, h⟩
def sp_word_of (Z : Adr) : Sp := Sp1 (q_word_of Z)
theorem cl_word_of {Z : Adr} {a0 : V} {H : Hp} {Q : VK} {E : XK} (h : q_word_of Z a0 H Q E) : sp_word_of Z [a0] H Q E := ⟨a0, rfl, h⟩
def sp_kind_of (Z : Adr) : Sp := Sp1 (q_kind_of Z)
theorem cl_kind_of {Z : Adr} {a0 : V} {H : Hp} {Q : VK} {E : XK} (h : q_kind_of Z a0 H Q E) : sp_kind_of Z [a0] H Q E := ⟨a0, rfl, h⟩
def sp_parts_of (Z : Adr) : Sp := Sp1 (q_parts_of Z)
theorem cl_parts_of {Z : Adr} {a0 : V} {H : Hp} {Q : VK} {E : XK} (h : q_parts_of Z a0 H Q E) : sp_parts_of Z [a0] H Q E := ⟨a0, rfl, h⟩
def sp_is_of (Z : Adr) : Sp := Sp3 (q_is_of Z)
theorem cl_is_of {Z : Adr} {a0 a1 a2 : V} {H : Hp} {Q : VK} {E : XK} (h : q_is_of Z a0 a1 a2 H Q E) : sp_is_of Z [a0, a1, a2] H Q E := ⟨a0, a1, a2, rfl, h⟩
def sp_is_name (Z : Adr) : Sp := Sp1 (q_is_name Z)
theorem cl_is_name {Z : Adr} {a0 : V} {H : Hp} {Q : VK} {E : XK} (h : q_is_name Z a0 H Q E) : sp_is_name Z [a0] H Q E := ⟨a0, rfl, h⟩
def sp_is_number_of (Z : Adr) : Sp := Sp2 (q_is_number_of Z)
theorem cl_is_number_of {Z : Adr} {a0 a1 : V} {H : Hp} {Q : VK} {E : XK} (h : q_is_number_of Z a0 a1 H Q E) : sp_is_number_of Z [a0, a1] H Q E := ⟨a0, a1, rfl, h⟩
def sp_is_number_word (Z : Adr) : Sp := Sp1 (q_is_number_word Z)
theorem cl_is_number_word {Z : Adr} {a0 : V} {H : Hp} {Q : VK} {E : XK} (h : q_is_number_word Z a0 H Q E) : sp_is_number_word Z [a0] H Q E := ⟨a0, rfl, h⟩
def sp_words_of (Z : Adr) : Sp := Sp1 (q_words_of Z)
theorem cl_words_of {Z : Adr} {a0 : V} {H : Hp} {Q : VK} {E : XK} (h : q_words_of Z a0 H Q E) : sp_words_of Z [a0] H Q E := ⟨a0, rfl, h⟩
def sp_heads_inp (Z : Adr) : Sp := Sp1 (q_heads_inp Z)
theorem cl_heads_inp {Z : Adr} {a0 : V} {H : Hp} {Q : VK} {E : XK} (h : q_heads_inp Z a0 H Q E) : sp_heads_inp Z [a0] H Q E := ⟨a0, rfl, h⟩
def sp_Reader_init (Z : Adr) : Sp := Sp2 (q_Reader_init Z)
theorem cl_Reader_init {Z : Adr} {a0 a1 : V} {H : Hp} {Q : VK} {E : XK} (h : q_Reader_init Z a0 a1 H Q E) : sp_Reader_init Z [a0, a1] H Q E := ⟨a0, a1, rfl, h⟩
def sp_Reader_is_left (Z : Adr) : Sp := Sp1 (q_Reader_is_left Z)
theorem cl_Reader_is_left {Z : Adr} {a0 : V} {H : Hp} {Q : VK} {E : XK} (h : q_Reader_is_left Z a0 H Q E) : sp_Reader_is_left Z [a0] H Q E := ⟨a0, rfl, h⟩
def sp_Reader_due (Z : Adr) : NdefX.NF → (List V → Hp → VK → Prop) → V → Hp → VK → XK → Prop := q_Reader_due Z
theorem cl_Reader_due {Z : Adr} {F : NdefX.NF} {lp : List V → Hp → VK → Prop} {a0 : V} {H : Hp} {Q : VK} {E : XK} (h : q_Reader_due Z F lp a0 H Q E) : sp_Reader_due Z F lp a0 H Q E := h
def sp_Reader_fixed_word (Z : Adr) : Sp := Sp2 (q_Reader_fixed_word Z)
theorem cl_Reader_fixed_word {Z : Adr} {a0 a1 : V} {H : Hp} {Q : VK} {E : XK} (h : q_Reader_fixed_word Z a0 a1 H Q E) : sp_Reader_fixed_word Z [a0, a1] H Q E := ⟨a0, a1, rfl, h⟩
def sp_Reader_fresh_name (Z : Adr) : Sp := Sp2 (q_Reader_fresh_name Z)
theorem cl_Reader_fresh_name {Z : Adr} {a0 a1 : V} {H : Hp} {Q : VK} {E : XK} (h : q_Reader_fresh_name Z a0 a1 H Q E) : sp_Reader_fresh_name Z [a0, a1] H Q E := ⟨a0, a1, rfl, h⟩
def sp_Reader_boxes_to (Z : Adr) : Sp := Sp4 (q_Reader_boxes_to Z)
theorem cl_Reader_boxes_to {Z : Adr} {a0 a1 a2 a3 : V} {H : Hp} {Q : VK} {E : XK} (h : q_Reader_boxes_to Z a0 a1 a2 a3 H Q E) : sp_Reader_boxes_to Z [a0, a1, a2, a3] H Q E := ⟨a0, a1, a2, a3, rfl, h⟩
def sp_Reader_how_many (Z : Adr) : Sp := Sp2 (q_Reader_how_many Z)
theorem cl_Reader_how_many {Z : Adr} {a0 a1 : V} {H : Hp} {Q : VK} {E : XK} (h : q_Reader_how_many Z a0 a1 H Q E) : sp_Reader_how_many Z [a0, a1] H Q E := ⟨a0, a1, rfl, h⟩
def sp_Reader_node (Z : Adr) (n : Nat) : Sp := Sp3 (q_Reader_node Z n)
theorem cl_Reader_node {Z : Adr} {n : Nat} {a0 a1 a2 : V} {H : Hp} {Q : VK} {E : XK} (h : q_Reader_node Z n a0 a1 a2 H Q E) : sp_Reader_node Z n [a0, a1, a2] H Q E := ⟨a0, a1, a2, rfl, h⟩
def sp_Reader_own_numbers (Z : Adr) : Sp := Sp3 (q_Reader_own_numbers Z)
theorem cl_Reader_own_numbers {Z : Adr} {a0 a1 a2 : V} {H : Hp} {Q : VK} {E : XK} (h : q_Reader_own_numbers Z a0 a1 a2 H Q E) : sp_Reader_own_numbers Z [a0, a1, a2] H Q E := ⟨a0, a1, a2, rfl, h⟩
def sp_is_node_word (Z : Adr) : Sp := Sp2 (q_is_node_word Z)
theorem cl_is_node_word {Z : Adr} {a0 a1 : V} {H : Hp} {Q : VK} {E : XK} (h : q_is_node_word Z a0 a1 H Q E) : sp_is_node_word Z [a0, a1] H Q E := ⟨a0, a1, rfl, h⟩
def sp_read_text (Z : Adr) : Sp := Sp1 (q_read_text Z)
theorem cl_read_text {Z : Adr} {a0 : V} {H : Hp} {Q : VK} {E : XK} (h : q_read_text Z a0 H Q E) : sp_read_text Z [a0] H Q E := ⟨a0, rfl, h⟩
def sp_Lpen (Z : Adr) : Sp := Sp2 (q_Lpen Z)
theorem cl_Lpen {Z : Adr} {a0 a1 : V} {H : Hp} {Q : VK} {E : XK} (h : q_Lpen Z a0 a1 H Q E) : sp_Lpen Z [a0, a1] H Q E := ⟨a0, a1, rfl, h⟩
def sp_Ldraw (Z : Adr) : Sp := Sp2 (q_Ldraw Z)
theorem cl_Ldraw {Z : Adr} {a0 a1 : V} {H : Hp} {Q : VK} {E : XK} (h : q_Ldraw Z a0 a1 H Q E) : sp_Ldraw Z [a0, a1] H Q E := ⟨a0, a1, rfl, h⟩
def sp_Lwords (Z : Adr) : Sp := Sp0 (q_Lwords Z)
theorem cl_Lwords {Z : Adr} {H : Hp} {Q : VK} {E : XK} (h : q_Lwords Z H Q E) : sp_Lwords Z [] H Q E := ⟨rfl, h⟩
def sp_Lname (Z : Adr) : Sp := Sp2 (q_Lname Z)
theorem cl_Lname {Z : Adr} {a0 a1 : V} {H : Hp} {Q : VK} {E : XK} (h : q_Lname Z a0 a1 H Q E) : sp_Lname Z [a0, a1] H Q E := ⟨a0, a1, rfl, h⟩
def sp_Lheads (Z : Adr) : Sp := Sp2 (q_Lheads Z)
theorem cl_Lheads {Z : Adr} {a0 a1 : V} {H : Hp} {Q : VK} {E : XK} (h : q_Lheads Z a0 a1 H Q E) : sp_Lheads Z [a0, a1] H Q E := ⟨a0, a1, rfl, h⟩
def sp_Lnumber (Z : Adr) : Sp := Sp2 (q_Lnumber Z)
theorem cl_Lnumber {Z : Adr} {a0 a1 : V} {H : Hp} {Q : VK} {E : XK} (h : q_Lnumber Z a0 a1 H Q E) : sp_Lnumber Z [a0, a1] H Q E := ⟨a0, a1, rfl, h⟩
def sp_Lshape (Z : Adr) (n : Nat) : Sp := Sp5 (q_Lshape Z n)
theorem cl_Lshape {Z : Adr} {n : Nat} {a0 a1 a2 a3 a4 : V} {H : Hp} {Q : VK} {E : XK} (h : q_Lshape Z n a0 a1 a2 a3 a4 H Q E) : sp_Lshape Z n [a0, a1, a2, a3, a4] H Q E := ⟨a0, a1, a2, a3, a4, rfl, h⟩
def sp_Lprogram (Z : Adr) : Sp := Sp3 (q_Lprogram Z)
theorem cl_Lprogram {Z : Adr} {a0 a1 a2 : V} {H : Hp} {Q : VK} {E : XK} (h : q_Lprogram Z a0 a1 a2 H Q E) : sp_Lprogram Z [a0, a1, a2] H Q E := ⟨a0, a1, a2, rfl, h⟩
def sp_Lright (Z : Adr) : Sp := Sp2 (q_Lright Z)
theorem cl_Lright {Z : Adr} {a0 a1 : V} {H : Hp} {Q : VK} {E : XK} (h : q_Lright Z a0 a1 H Q E) : sp_Lright Z [a0, a1] H Q E := ⟨a0, a1, rfl, h⟩
def sp_Lcaught (Z : Adr) : Sp := Sp1 (q_Lcaught Z)
theorem cl_Lcaught {Z : Adr} {a0 : V} {H : Hp} {Q : VK} {E : XK} (h : q_Lcaught Z a0 H Q E) : sp_Lcaught Z [a0] H Q E := ⟨a0, rfl, h⟩
def sp_Lbad_names (Z : Adr) : Sp := Sp0 (q_Lbad_names Z)
theorem cl_Lbad_names {Z : Adr} {H : Hp} {Q : VK} {E : XK} (h : q_Lbad_names Z H Q E) : sp_Lbad_names Z [] H Q E := ⟨rfl, h⟩
def sp_Lbad_heads (Z : Adr) : Sp := Sp3 (q_Lbad_heads Z)
theorem cl_Lbad_heads {Z : Adr} {a0 a1 a2 : V} {H : Hp} {Q : VK} {E : XK} (h : q_Lbad_heads Z a0 a1 a2 H Q E) : sp_Lbad_heads Z [a0, a1, a2] H Q E := ⟨a0, a1, a2, rfl, h⟩
def sp_Lbad_bodies (Z : Adr) : Sp := Sp2 (q_Lbad_bodies Z)
theorem cl_Lbad_bodies {Z : Adr} {a0 a1 : V} {H : Hp} {Q : VK} {E : XK} (h : q_Lbad_bodies Z a0 a1 H Q E) : sp_Lbad_bodies Z [a0, a1] H Q E := ⟨a0, a1, rfl, h⟩
def sp_Ltexts (Z : Adr) : Sp := Sp0 (q_Ltexts Z)
theorem cl_Ltexts {Z : Adr} {H : Hp} {Q : VK} {E : XK} (h : q_Ltexts Z H Q E) : sp_Ltexts Z [] H Q E := ⟨rfl, h⟩
def sp_Lspoilt (Z : Adr) : Sp := Sp3 (q_Lspoilt Z)
theorem cl_Lspoilt {Z : Adr} {a0 a1 a2 : V} {H : Hp} {Q : VK} {E : XK} (h : q_Lspoilt Z a0 a1 a2 H Q E) : sp_Lspoilt Z [a0, a1, a2] H Q E := ⟨a0, a1, a2, rfl, h⟩
def sp_Llone (Z : Adr) : Sp := Sp2 (q_Llone Z)
theorem cl_Llone {Z : Adr} {a0 a1 : V} {H : Hp} {Q : VK} {E : XK} (h : q_Llone Z a0 a1 H Q E) : sp_Llone Z [a0, a1] H Q E := ⟨a0, a1, rfl, h⟩
def sp_law (Z : Adr) : Sp := Sp1 (q_law Z)
theorem cl_law {Z : Adr} {a0 : V} {H : Hp} {Q : VK} {E : XK} (h : q_law Z a0 H Q E) : sp_law Z [a0] H Q E := ⟨a0, rfl, h⟩
def t_NoText_init (Z : Adr) (W : WX) : TS := (tSeq (tDrop (tVeI Z.K (tCons (tVar 0) (tCons (tC (.str "a text that writes nothing")) tNil))))
    (tOst Z.K "at" (tVar 0) (tVar 1)))
def t_word_of (Z : Adr) (W : WX) : TS := (tRet (tOp (rIx Z.K) (tOp (rAddU Z.K) (tC (.ref Z.a_EARLY)) (tC (.ref Z.a_LATE))) (tOp (rI0 fun i j => .int (i - j)) (tVar 0) (tC (.int 2)))))
def t_kind_of (Z : Adr) (W : WX) : TS := (tSeq (tFor (iRng2 (tCons (tC (.int 2)) (tCons (tOp (rAddU Z.K) (tC (.int 19)) (tC (.int 1))) tNil))) (gName 1) (tIfS (tTest (tOp (rEqU Z.K) (tCallS (sp_word_of Z) (WE W) (tCons (tVar 1) tNil)) (tVar 0))) (tRet (tVar 1)) tNext))
    (tRet (tC .non)))
def t_parts_of (Z : Adr) (W : WX) : TS := (tSeq (tIfS (tTest (tOp (rEqU Z.K) (tVar 0) (tC (.int 19)))) (tRet (tC (.int 0))) tNext)
    (tSeq (tIfS (tTest (tOp (rIn Z.K false) (tVar 0) (tTup (tCons (tC (.int 7)) (tCons (tC (.int 18)) tNil))))) (tRet (tC (.int 1))) tNext)
    (tSeq (tIfS (tTest (tOp (rEqU Z.K) (tVar 0) (tC (.int 17)))) (tRet (tC (.int 3))) tNext)
    (tRet (tC (.int 2))))))
def t_is_of (Z : Adr) (W : WX) : TS := (tSeq (tIfS (tNot (tTest (tChain (rI0 fun i j => .bl (decide (i ≤ j))) (rI0 fun i j => .bl (decide (i ≤ j))) (tC (.int 1)) (tCB (rLen Z.K) (tCons (tVar 0) tNil)) (tVar 2)))) (tRet (tC (.bl false))) tNext)
    (tSeq (tFor (iStr (tVar 0)) (gName 3) (tIfS (tTest (tOp rNotInSg (tVar 3) (tVar 1))) (tRet (tC (.bl false))) tNext))
    (tRet (tC (.bl true)))))
def t_is_name (Z : Adr) (W : WX) : TS := (tSeq (tIfS (tOr (tTest (tOp (rIn Z.K false) (tVar 0) (tTup (tCons (tC (.str "fun")) (tCons (tC (.str "with")) (tCons (tC (.str "is")) tNil)))))) (tTest (tOp rNotU (tCallS (sp_kind_of Z) (WE W) (tCons (tVar 0) tNil)) (tC .non)))) (tRet (tC (.bl false))) tNext)
    (tRet (tCallS (sp_is_of Z) (WE W) (tCons (tVar 0) (tCons (tC (.str "abcdefghijklmnopqrstuvwxyz")) (tCons (tC (.int 8)) tNil))))))
def t_is_number_of (Z : Adr) (W : WX) : TS := (tSeq (tAsg (tVar 0) (gName 2))
    (C8.tCut (tIfS (tTest (tOp (rEqU Z.K) (tSl rSlS (tVar 0) tNoPart (tPart (tC (.int 1)))) (tC (.str "-")))) (tAsg (tSl rSlS (tVar 0) (tPart (tC (.int 1))) tNoPart) (gName 2)) tNext)
    (tSeq (tIfS (tNot (tB (tCallS (sp_is_of Z) (WE W) (tCons (tVar 2) (tCons (tC (.str "0123456789")) (tCons (tVar 1) tNil)))))) (tRet (tC (.bl false))) tNext)
    (tRet (tOrV (tOp (rNeU Z.K) (tOp (rIx Z.K) (tVar 2) (tC (.int 0))) (tC (.str "0"))) (tOp (rEqU Z.K) (tVar 0) (tC (.str "0"))))))))
def t_is_number_word (Z : Adr) (W : WX) : TS := (tRet (tCallS (sp_is_number_of Z) (WE W) (tCons (tVar 0) (tCons (tC (.int 60)) tNil))))
def t_words_of (Z : Adr) (W : WX) : TS := (tSeq (tIfS (tNot (tB (tCB (rIsi2 Z.K) (tCons (tVar 0) (tCons (tC (.ty "str")) tNil))))) (sRaiseO Z.c_NoText (sp_NoText_init Z) W (tCons (tC (.int 0)) tNil)) tNext)
    (tRet (tLc (iList Z.K (tBM Z.K "str" rSplit (CwR.tReplC (tVar 0) "\n" " ") (tCons (tC (.str " ")) tNil))) (gName 2) (tTest (tOp (rNeU Z.K) (tVar 2) (tC (.str "")))) (tVar 2) [1, 2])))
def t_heads_inp (Z : Adr) (W : WX) : TS := (tSeq (tAsg tDNewK (gName 1))
    (tSeq (tAsg (tC (.int 0)) (gName 2))
    (tSeq (tFor (iRng1 (tCons (tOp (rI0 fun i j => .int (i - j)) (tCB (rLen Z.K) (tCons (tVar 0) tNil)) (tC (.int 1))) tNil)) (gName 3) (tIfS (tTest (tOp (rEqU Z.K) (tOp (rIx Z.K) (tVar 0) (tVar 3)) (tC (.str "fun")))) (C8.tCut (tIfS (tB (tDNotIn (tOp (rIx Z.K) (tVar 0) (tOp (rAddU Z.K) (tVar 3) (tC (.int 1)))) (tVar 1))) (tSeq (tAsg (tOp (rAddU Z.K) (tVar 3) (tC (.int 2))) (gName 4))
    (tSeq (tWhile (tAnd (tTest (tOp (rI0 fun i j => .bl (decide (i < j))) (tVar 4) (tCB (rLen Z.K) (tCons (tVar 0) tNil)))) (tTest (tOp (rNeU Z.K) (tOp (rIx Z.K) (tVar 0) (tVar 4)) (tC (.str "with"))))) (tAsg (tOp (rAddU Z.K) (tVar 4) (tC (.int 1))) (gName 4)))
    (sDPut (tVar 1) (tOp (rIx Z.K) (tVar 0) (tOp (rAddU Z.K) (tVar 3) (tC (.int 1)))) (tTup (tCons (tVar 2) (tCons (tOp (rI0 fun i j => .int (i - j)) (tOp (rI0 fun i j => .int (i - j)) (tVar 4) (tVar 3)) (tC (.int 2))) tNil)))))) tNext)
    (tAsg (tOp (rAddU Z.K) (tVar 2) (tC (.int 1))) (gName 2))) tNext))
    (tRet (tVar 1)))))
def t_Reader_init (Z : Adr) (W : WX) : TS := (tSeq (sFld Z.K (tVar 0) (tVar 1) "words")
    (tSeq (sFld Z.K (tVar 0) (tC (.int 0)) "at")
    (sFld Z.K (tVar 0) (tCallS (sp_heads_inp Z) (WE W) (tCons (tVar 1) tNil)) "heads")))
def t_Reader_is_left (Z : Adr) (W : WX) : TS := (tRet (tOp (rI0 fun i j => .bl (decide (i < j))) (tFld Z.K (tVar 0) "at") (tCB (rLen Z.K) (tCons (tFld Z.K (tVar 0) "words") tNil))))
def t_Reader_due (Z : Adr) (W : WX) (F : NdefX.NF) (f : Addr) (lp : List V → Hp → VK → Prop) : TS := (tSeq (tIfS (tOr (tNot (tB (tMethZ Z.c_Reader "is_left" (sp_Reader_is_left Z) (WE W) (tVar 0) tNil))) (tNot (tB (tApp 1 f F lp (tOp (rIx Z.K) (tFld Z.K (tVar 0) "words") (tFld Z.K (tVar 0) "at")))))) (sRaiseO Z.c_NoText (sp_NoText_init Z) W (tCons (tFld Z.K (tVar 0) "at") tNil)) tNext)
    (tSeq (sFld Z.K (tVar 0) (tOp (rAddU Z.K) (tFld Z.K (tVar 0) "at") (tC (.int 1))) "at")
    (tRet (tOp (rIx Z.K) (tFld Z.K (tVar 0) "words") (tOp (rI0 fun i j => .int (i - j)) (tFld Z.K (tVar 0) "at") (tC (.int 1)))))))
def t_Reader_fixed_word (Z : Adr) (W : WX) : TS := (tDrop (tMethL Z.c_Reader "due" Z.p_Reader_fixed_word (sp_Reader_due Z) ["other", "word"] (tOp (rEqU Z.K) (tVar 0) (tVar 1)) [1] (WE W) (tVar 0)))
def t_Reader_fresh_name (Z : Adr) (W : WX) : TS := (tRet (tMethL Z.c_Reader "due" Z.p_Reader_fresh_name (sp_Reader_due Z) ["word", "taken"] (tAndV (tCallS (sp_is_name Z) (WE fun _ _ _ _ => False) (tCons (tVar 0) tNil)) (tOp (rIn Z.K true) (tVar 0) (tVar 1))) [1] (WE W) (tVar 0)))
def t_Reader_boxes_to (Z : Adr) (W : WX) : TS := (tSeq (tWhile (tTest (tOp (rNeU Z.K) (tSl (rSlU Z.K) (tFld Z.K (tVar 0) "words") (tPart (tFld Z.K (tVar 0) "at")) (tPart (tOp (rAddU Z.K) (tFld Z.K (tVar 0) "at") (tC (.int 1))))) (tLst (tCons (tVar 1) tNil)))) (tSeq (tIfS (tTest (tOp (rEqU Z.K) (tCB (rLen Z.K) (tCons (tVar 2) tNil)) (tVar 3))) (sRaiseO Z.c_NoText (sp_NoText_init Z) W (tCons (tFld Z.K (tVar 0) "at") tNil)) tNext)
    (tDrop (tBM Z.K "list" rAppend (tVar 2) (tCons (tMethZ Z.c_Reader "fresh_name" (sp_Reader_fresh_name Z) (WE W) (tVar 0) (tCons (tVar 2) tNil)) tNil)))))
    (tDrop (tMethZ Z.c_Reader "fixed_word" (sp_Reader_fixed_word Z) (WE W) (tVar 0) (tCons (tVar 1) tNil))))
def t_Reader_how_many (Z : Adr) (W : WX) : TS := (tRet (tCB rIntS (tCons (tMethL Z.c_Reader "due" Z.p_Reader_how_many (sp_Reader_due Z) ["word", "least"] (tAndV (tCallS (sp_is_number_word Z) (WE fun _ _ _ _ => False) (tCons (tVar 0) tNil)) (tChain (rI0 fun i j => .bl (decide (i ≤ j))) (rI0 fun i j => .bl (decide (i ≤ j))) (tVar 1) (tCB rIntS (tCons (tVar 0) tNil)) (tC (.int 12)))) [1] (WE W) (tVar 0)) tNil)))
def t_Reader_node (Z : Adr) (n : Nat) (W : WX) : TS := (tSeq (tIfS (tTest (tOp (rI0 fun i j => .bl (decide (j < i))) (tVar 2) (tC (.int 10)))) (sRaiseO Z.c_NoText (sp_NoText_init Z) W (tCons (tFld Z.K (tVar 0) "at") tNil)) tNext)
    (tSeq (tAsg (tMethL Z.c_Reader "due" Z.p_Reader_node (sp_Reader_due Z) ["other", "boxes"] (tCallS (sp_is_node_word Z) (WE fun _ _ _ _ => False) (tCons (tVar 0) (tCons (tVar 1) tNil))) [1] (WE W) (tVar 0)) (gName 3))
    (tSeq (tIfS (tTest (tOp (rIn Z.K false) (tVar 3) (tVar 1))) (tRet (tLst (tCons (tC (.int 1)) (tCons (tBM Z.K "list" (rIndex Z.K) (tVar 1) (tCons (tVar 3) tNil)) tNil)))) tNext)
    (tSeq (tIfS (tB (tCallS (sp_is_number_word Z) (WE W) (tCons (tVar 3) tNil))) (tRet (tLst (tCons (tC (.int 0)) (tCons (tCB rIntS (tCons (tVar 3) tNil)) tNil)))) tNext)
    (tSeq (tAsg (tCallS (sp_kind_of Z) (WE W) (tCons (tVar 3) tNil)) (gName 4))
    (tSeq (tAsg (tMethZ Z.c_Reader "own_numbers" (sp_Reader_own_numbers Z) (WE W) (tVar 0) (tCons (tVar 4) (tCons (tVar 1) tNil))) (gUn Z.K 2 (gCons (gName 5) (gCons (gName 6) gNil))))
    (tSeq (tAsg (tOp (rAddU Z.K) (tLst (tCons (tVar 4) tNil)) (tVar 5)) (gName 5))
    (tSeq (tFor (iRng1 (tCons (tVar 6) tNil)) (gName 7) (tDrop (tBM Z.K "list" rExtend (tVar 5) (tCons (tMethZ Z.c_Reader "node" (sp_Reader_node Z n) (WE W) (tVar 0) (tCons (tVar 1) (tCons (tOp (rAddU Z.K) (tVar 2) (tC (.int 1))) tNil))) tNil))))
    (tRet (tVar 5))))))))))
def t_Reader_own_numbers (Z : Adr) (W : WX) : TS := (tSeq (tIfS (tTest (tOp (rEqU Z.K) (tVar 1) (tC (.int 2)))) (tRet (tTup (tCons (tLst (tCons (tBM Z.K "list" (rIndex Z.K) (tVar 2) (tCons (tMethL Z.c_Reader "due" Z.p_Reader_own_numbers (sp_Reader_due Z) ["word", "boxes"] (tOp (rIn Z.K false) (tVar 0) (tVar 1)) [2] (WE W) (tVar 0)) tNil)) tNil)) (tCons (tC (.int 1)) tNil)))) tNext)
    (tSeq (tIfS (tTest (tOp (rEqU Z.K) (tVar 1) (tC (.int 3)))) (tSeq (tAsg (tMethZ Z.c_Reader "how_many" (sp_Reader_how_many Z) (WE W) (tVar 0) (tCons (tC (.int 1)) tNil)) (gName 3))
    (tRet (tTup (tCons (tLst (tCons (tVar 3) tNil)) (tCons (tVar 3) tNil))))) tNext)
    (tSeq (tIfS (tTest (tOp (rEqU Z.K) (tVar 1) (tC (.int 4)))) (tSeq (tAsg (tMethZ Z.c_Reader "how_many" (sp_Reader_how_many Z) (WE W) (tVar 0) (tCons (tC (.int 2)) tNil)) (gName 3))
    (tRet (tTup (tCons (tLst (tCons (tVar 3) tNil)) (tCons (tOp (rAddU Z.K) (tVar 3) (tC (.int 1))) tNil))))) tNext)
    (tSeq (tIfS (tTest (tOp (rEqU Z.K) (tVar 1) (tC (.int 6)))) (tSeq (tAsg (tDGet (tFld Z.K (tVar 0) "heads") (tMethL Z.c_Reader "due" Z.p_Reader_own_numbers (sp_Reader_due Z) ["word", "self"] (tAndV (tCallS (sp_is_name Z) (WE fun _ _ _ _ => False) (tCons (tVar 0) tNil)) (tDIn (tVar 0) (tFld Z.K (tVar 1) "heads"))) [0] (WE W) (tVar 0))) (gUn Z.K 2 (gCons (gName 4) (gCons (gName 3) gNil))))
    (tRet (tTup (tCons (tLst (tCons (tVar 4) tNil)) (tCons (tVar 3) tNil))))) tNext)
    (tSeq (tIfS (tTest (tOp (rEqU Z.K) (tVar 1) (tC (.int 5)))) (tRet (tTup (tCons (tLst tNil) (tCons (tC (.int 2)) tNil)))) tNext)
    (tRet (tTup (tCons (tLst tNil) (tCons (tCallS (sp_parts_of Z) (WE W) (tCons (tVar 1) tNil)) tNil)))))))))
def t_is_node_word (Z : Adr) (W : WX) : TS := (tRet (tOrV (tOp (rIn Z.K false) (tVar 0) (tVar 1)) (tOrV (tCallS (sp_is_number_word Z) (WE W) (tCons (tVar 0) tNil)) (tOp rNotU (tCallS (sp_kind_of Z) (WE W) (tCons (tVar 0) tNil)) (tC .non)))))
def t_read_text (Z : Adr) (W : WX) : TS := (tSeq (tAsg (tMakeZ Z.c_Reader (sp_Reader_init Z) (WE W) (tCons (tCallS (sp_words_of Z) (WE W) (tCons (tVar 0) tNil)) tNil)) (gName 1))
    (tSeq (tAsg (tLst tNil) (gName 2))
    (tSeq (tAsg (tLst tNil) (gName 3))
    (tSeq (tAsg (tLst tNil) (gName 4))
    (tSeq (tWhile (tOr (tTest (tOp (rEqU Z.K) (tVar 2) (tLst tNil))) (tB (tMethZ Z.c_Reader "is_left" (sp_Reader_is_left Z) (WE W) (tVar 1) tNil))) (tSeq (tIfS (tTest (tOp (rEqU Z.K) (tCB (rLen Z.K) (tCons (tVar 2) tNil)) (tC (.int 16)))) (sRaiseO Z.c_NoText (sp_NoText_init Z) W (tCons (tFld Z.K (tVar 1) "at") tNil)) tNext)
    (tSeq (tDrop (tMethZ Z.c_Reader "fixed_word" (sp_Reader_fixed_word Z) (WE W) (tVar 1) (tCons (tC (.str "fun")) tNil)))
    (tSeq (tAsg (tMethZ Z.c_Reader "fresh_name" (sp_Reader_fresh_name Z) (WE W) (tVar 1) (tCons (tLc (iList Z.K (tVar 2)) (gName 9) tYes (tOp (rIx Z.K) (tVar 9) (tC (.int 0))) [8, 9]) tNil)) (gName 5))
    (tSeq (tAsg (tLst tNil) (gName 6))
    (tSeq (tDrop (tMethZ Z.c_Reader "boxes_to" (sp_Reader_boxes_to Z) (WE W) (tVar 1) (tCons (tC (.str "with")) (tCons (tVar 6) (tCons (tOp rMul (tC (.int 4)) (tCB rInt1 (tCons (tOp (rNeU Z.K) (tVar 2) (tLst tNil)) tNil))) tNil)))))
    (tSeq (tAsg (tCB (rLen Z.K) (tCons (tVar 6) tNil)) (gName 7))
    (tSeq (tDrop (tMethZ Z.c_Reader "boxes_to" (sp_Reader_boxes_to Z) (WE W) (tVar 1) (tCons (tC (.str "is")) (tCons (tVar 6) (tCons (tC (.int 12)) tNil)))))
    (tSeq (tDrop (tBM Z.K "list" rExtend (tVar 3) (tCons (tLst (tCons (tVar 7) (tCons (tCB (rLen Z.K) (tCons (tVar 6) tNil)) tNil))) tNil)))
    (tSeq (tDrop (tBM Z.K "list" rExtend (tVar 4) (tCons (tMethZ Z.c_Reader "node" (sp_Reader_node Z 12) (WE W) (tVar 1) (tCons (tVar 6) (tCons (tC (.int 1)) tNil))) tNil)))
    (tDrop (tBM Z.K "list" rAppend (tVar 2) (tCons (tTup (tCons (tVar 5) (tCons (tCB (rTupOf Z.K) (tCons (tVar 6) tNil)) tNil))) tNil)))))))))))))
    (tRet (tTup (tCons (tCB (rTupOf Z.K) (tCons (tVar 2) tNil)) (tCons (tOp (rAddU Z.K) (tOp (rAddU Z.K) (tLst (tCons (tCB (rLen Z.K) (tCons (tVar 2) tNil)) tNil)) (tVar 3)) (tVar 4)) tNil)))))))))
def t_Lpen (Z : Adr) (W : WX) : TS := (tSeq (tAsg (tOp (rAddU Z.K) (tOp rMul (tC (.int 7919)) (tVar 1)) (tC (.int 5))) (gName 2))
    (C8.tCut (tIfS (tTest (tOp (rI0 fun i j => .bl (decide (i < j))) (tVar 1) (tCB (rLen Z.K) (tCons (tVar 0) tNil)))) (tAsg (tOp (rIx Z.K) (tVar 0) (tVar 1)) (gName 2)) (tIfS (tTest (tOp (rI0 fun i j => .bl (decide (j < i))) (tCB (rLen Z.K) (tCons (tVar 0) tNil)) (tC (.int 0)))) (tAsg (tOp (rAddU Z.K) (tOp rMod (tOp (rIx Z.K) (tVar 0) (tOp rMod (tVar 1) (tCB (rLen Z.K) (tCons (tVar 0) tNil)))) (tC (.int 2147483629))) (tOp rMul (tC (.int 48271)) (tVar 1))) (gName 2)) tNext))
    (tSeq (tIfS (tTest (tOp (rI0 fun i j => .bl (decide (j ≤ i))) (tVar 2) (tC (.int 1000000000000000000)))) (tRet (tLst (tCons (tOp (rI0 fun i j => .int (i - j)) (tVar 2) (tC (.int 1000000000000000000))) (tCons (tOp rMod (tVar 2) (tC (.int 2147483587))) (tCons (tC (.int 0)) tNil))))) tNext)
    (tRet (tLst (tCons (tC (.int 0)) (tCons (tOp rMod (tVar 2) (tC (.int 2147483587))) (tCons (tC (.int 0)) tNil))))))))
def t_Ldraw (Z : Adr) (W : WX) : TS := (tSeq (tAsg (tOp (rAddU Z.K) (tOp (rIx Z.K) (tVar 0) (tC (.int 2))) (tC (.int 1))) (gSub (tVar 0) (tC (.int 2)) rSetL))
    (tSeq (tIfS (tTest (tOp (rI0 fun i j => .bl (decide (j < i))) (tOp (rIx Z.K) (tVar 0) (tC (.int 0))) (tC (.int 0)))) (tSeq (tAsg (tOp rMod (tOp (rIx Z.K) (tVar 0) (tC (.int 0))) (tVar 1)) (gName 2))
    (tSeq (tAsg (tOp rFdv (tOp (rIx Z.K) (tVar 0) (tC (.int 0))) (tVar 1)) (gSub (tVar 0) (tC (.int 0)) rSetL))
    (tRet (tVar 2)))) tNext)
    (tSeq (tAsg (tOp rMod (tOp (rAddU Z.K) (tOp (rAddU Z.K) (tOp (rIx Z.K) (tVar 0) (tC (.int 1))) (tOp rMul (tC (.int 48271)) (tOp (rIx Z.K) (tVar 0) (tC (.int 2))))) (tC (.int 11))) (tC (.int 2147483629))) (gName 3))
    (tSeq (tAsg (tOp (rAddU Z.K) (tOp rMod (tOp rMul (tVar 3) (tVar 3)) (tC (.int 2147483587))) (tOp rMul (tC (.int 7919)) (tOp (rIx Z.K) (tVar 0) (tC (.int 2))))) (gName 3))
    (tSeq (tAsg (tOp rMod (tOp rMul (tVar 3) (tVar 3)) (tC (.int 2147483629))) (gName 3))
    (tRet (tOp rMod (tOp rFdv (tVar 3) (tC (.int 7))) (tVar 1))))))))
def t_Lwords (Z : Adr) (W : WX) : TS := (tSeq (tAsg (tC (.str "fun with is set all pick loop call fail add sub mul quo rest less same push at put size new")) (gName 0))
    (tRet (tBM Z.K "str" rSplit (tVar 0) (tCons (tC (.str " ")) tNil))))
def t_Lname (Z : Adr) (W : WX) : TS := (tSeq (tAsg (tC (.str "abcdefghijklmnopqrstuvwxyz")) (gName 2))
    (tSeq (tAsg (tOp (rIx Z.K) (tLst (tCons (tC (.int 1)) (tCons (tC (.int 1)) (tCons (tC (.int 2)) (tCons (tC (.int 3)) (tCons (tC (.int 8)) (tCons (tOp (rAddU Z.K) (tC (.int 1)) (tCallS (sp_Ldraw Z) (WE W) (tCons (tVar 0) (tCons (tC (.int 8)) tNil)))) tNil))))))) (tCallS (sp_Ldraw Z) (WE W) (tCons (tVar 0) (tCons (tC (.int 6)) tNil)))) (gName 3))
    (tSeq (tAsg (tLc (iRng1 (tCons (tVar 3) tNil)) (gName 6) tYes (tOp (rIx Z.K) (tVar 2) (tCallS (sp_Ldraw Z) (WE fun _ _ _ _ => False) (tCons (tVar 0) (tCons (tC (.int 26)) tNil)))) [5, 6]) (gName 4))
    (tSeq (tWhile (tTest (tOp (rIn Z.K false) (tBM Z.K "str" (rJoin Z.K) (tC (.str "")) (tCons (tVar 4) tNil)) (tOp (rAddU Z.K) (tVar 1) (tCallS (sp_Lwords Z) (WE W) tNil)))) (tAsg (tOp (rIx Z.K) (tVar 2) (tOp rMod (tOp (rAddU Z.K) (tBM Z.K "str" rSIndex (tVar 2) (tCons (tOp (rIx Z.K) (tVar 4) (tUn (rU fun i => .int (-i)) (tC (.int 1)))) tNil)) (tC (.int 1))) (tC (.int 26)))) (gSub (tVar 4) (tUn (rU fun i => .int (-i)) (tC (.int 1))) rSetL)))
    (tRet (tBM Z.K "str" (rJoin Z.K) (tC (.str "")) (tCons (tVar 4) tNil)))))))
def t_Lheads (Z : Adr) (W : WX) : TS := (tSeq (tAsg (tLst tNil) (gName 2))
    (tSeq (tAsg (tLst tNil) (gName 3))
    (tSeq (tFor (iRng1 (tCons (tOp (rAddU Z.K) (tC (.int 1)) (tCallS (sp_Ldraw Z) (WE W) (tCons (tVar 0) (tCons (tVar 1) tNil)))) tNil)) (gName 4) (tSeq (tAsg (tCallS (sp_Lname Z) (WE W) (tCons (tVar 0) (tCons (tVar 3) tNil))) (gName 5))
    (tSeq (tDrop (tBM Z.K "list" rAppend (tVar 3) (tCons (tVar 5) tNil)))
    (tSeq (tAsg (tOp rMul (tCallS (sp_Ldraw Z) (WE W) (tCons (tVar 0) (tCons (tC (.int 5)) tNil))) (tCB rInt1 (tCons (tOp (rI0 fun i j => .bl (decide (j < i))) (tVar 4) (tC (.int 0))) tNil))) (gName 6))
    (tSeq (tAsg (tLst tNil) (gName 7))
    (tSeq (tFor (iRng1 (tCons (tOp (rAddU Z.K) (tVar 6) (tCallS (sp_Ldraw Z) (WE W) (tCons (tVar 0) (tCons (tOp (rIx Z.K) (tLst (tCons (tC (.int 3)) (tCons (tOp (rI0 fun i j => .int (i - j)) (tC (.int 13)) (tVar 6)) tNil))) (tCB rInt1 (tCons (tOp (rEqU Z.K) (tCallS (sp_Ldraw Z) (WE W) (tCons (tVar 0) (tCons (tC (.int 6)) tNil))) (tC (.int 0))) tNil))) tNil)))) tNil)) (gName 8) (tDrop (tBM Z.K "list" rAppend (tVar 7) (tCons (tCallS (sp_Lname Z) (WE W) (tCons (tVar 0) (tCons (tVar 7) tNil))) tNil))))
    (tDrop (tBM Z.K "list" rAppend (tVar 2) (tCons (tTup (tCons (tVar 5) (tCons (tCB (rTupOf Z.K) (tCons (tVar 7) tNil)) (tCons (tVar 6) tNil)))) tNil)))))))))
    (tRet (tVar 2)))))
def t_Lnumber (Z : Adr) (W : WX) : TS := (tSeq (tAsg (tCallS (sp_Ldraw Z) (WE W) (tCons (tVar 0) (tCons (tC (.int 6)) tNil))) (gName 2))
    (tSeq (tIfS (tTest (tOp (rI0 fun i j => .bl (decide (i < j))) (tVar 2) (tC (.int 4)))) (tRet (tOp (rI0 fun i j => .int (i - j)) (tCallS (sp_Ldraw Z) (WE W) (tCons (tVar 0) (tCons (tC (.int 12)) tNil))) (tC (.int 2)))) tNext)
    (tSeq (tIfS (tOr (tTest (tOp (rEqU Z.K) (tVar 2) (tC (.int 4)))) (tNot (tB (tVar 1)))) (tRet (tOp (rI0 fun i j => .int (i - j)) (tCallS (sp_Ldraw Z) (WE W) (tCons (tVar 0) (tCons (tC (.int 2001)) tNil))) (tC (.int 1000)))) tNext)
    (tRet (tOp rMul (tOp (rI0 fun i j => .int (i - j)) (tOp (rI0 fun i j => .int (i - j)) (tC (.int 1000000000000000000000000000000000000000000000000000000000000)) (tC (.int 1))) (tCallS (sp_Ldraw Z) (WE W) (tCons (tVar 0) (tCons (tC (.int 1000000)) tNil)))) (tOp (rI0 fun i j => .int (i - j)) (tC (.int 1)) (tOp rMul (tC (.int 2)) (tCallS (sp_Ldraw Z) (WE W) (tCons (tVar 0) (tCons (tC (.int 2)) tNil))))))))))
def t_Lshape (Z : Adr) (n : Nat) (W : WX) : TS := (tSeq (tAsg (tOp (rI0 fun i j => .int (i - j)) (tOp (rIx Z.K) (tVar 3) (tC (.int 0))) (tC (.int 1))) (gSub (tVar 3) (tC (.int 0)) rSetL))
    (tSeq (tAsg (tCallS (sp_Ldraw Z) (WE W) (tCons (tVar 0) (tCons (tC (.int 20)) tNil))) (gName 5))
    (C8.tCut (tIfS (tOr (tTest (tOp (rI0 fun i j => .bl (decide (i < j))) (tOp (rIx Z.K) (tVar 3) (tC (.int 0))) (tC (.int 1)))) (tTest (tOp (rEqU Z.K) (tVar 4) (tC (.int 10))))) (tAsg (tOp (rIx Z.K) (tLst (tCons (tC (.int 0)) (tCons (tC (.int 1)) (tCons (tC (.int 19)) tNil)))) (tCallS (sp_Ldraw Z) (WE W) (tCons (tVar 0) (tCons (tC (.int 3)) tNil)))) (gName 5)) tNext)
    (C8.tCut (tIfS (tAnd (tTest (tOp (rIn Z.K false) (tVar 5) (tTup (tCons (tC (.int 1)) (tCons (tC (.int 2)) tNil))))) (tTest (tOp (rEqU Z.K) (tVar 2) (tTup tNil)))) (tAsg (tC (.int 0)) (gName 5)) tNext)
    (tSeq (tIfS (tTest (tOp (rEqU Z.K) (tVar 5) (tC (.int 0)))) (tSeq (tAsg (tCallS (sp_Lnumber Z) (WE W) (tCons (tVar 0) (tCons (tOp (rI0 fun i j => .bl (decide (j < i))) (tOp (rIx Z.K) (tVar 3) (tC (.int 0))) (tC (.int 0))) tNil))) (gName 6))
    (tRet (tTup (tCons (tLst (tCons (tCB rStrI (tCons (tVar 6) tNil)) tNil)) (tCons (tLst (tCons (tC (.int 0)) (tCons (tVar 6) tNil))) tNil))))) tNext)
    (tSeq (tIfS (tTest (tOp (rEqU Z.K) (tVar 5) (tC (.int 1)))) (tSeq (tAsg (tCallS (sp_Ldraw Z) (WE W) (tCons (tVar 0) (tCons (tCB (rLen Z.K) (tCons (tVar 2) tNil)) tNil))) (gName 7))
    (tRet (tTup (tCons (tLst (tCons (tOp (rIx Z.K) (tVar 2) (tVar 7)) tNil)) (tCons (tLst (tCons (tC (.int 1)) (tCons (tVar 7) tNil))) tNil))))) tNext)
    (tSeq (tAsg (tOp (rIx Z.K) (tCallS (sp_Lwords Z) (WE W) tNil) (tOp (rAddU Z.K) (tVar 5) (tC (.int 1)))) (gName 8))
    (tSeq (tAsg (tOp (rIx Z.K) (tLst (tCons (tC (.int 1)) (tCons (tC (.int 0)) (tCons (tC (.int 0)) (tCons (tC (.int 2)) (tCons (tC (.int 0)) (tCons (tC (.int 1)) (tCons (tC (.int 2)) (tCons (tC (.int 2)) (tCons (tC (.int 2)) (tCons (tC (.int 2)) (tCons (tC (.int 2)) (tCons (tC (.int 2)) (tCons (tC (.int 2)) (tCons (tC (.int 2)) (tCons (tC (.int 2)) (tCons (tC (.int 3)) (tCons (tC (.int 1)) (tCons (tC (.int 0)) tNil))))))))))))))))))) (tOp (rI0 fun i j => .int (i - j)) (tVar 5) (tC (.int 2)))) (gName 9))
    (tSeq (tAsg (tLst (tCons (tVar 8) tNil)) (gName 10))
    (tSeq (tAsg (tLst (tCons (tVar 5) tNil)) (gName 11))
    (C8.tCut (tIfS (tTest (tOp (rEqU Z.K) (tVar 5) (tC (.int 2)))) (tSeq (tAsg (tCallS (sp_Ldraw Z) (WE W) (tCons (tVar 0) (tCons (tCB (rLen Z.K) (tCons (tVar 2) tNil)) tNil))) (gName 7))
    (tSeq (tDrop (tBM Z.K "list" rAppend (tVar 10) (tCons (tOp (rIx Z.K) (tVar 2) (tVar 7)) tNil)))
    (tDrop (tBM Z.K "list" rAppend (tVar 11) (tCons (tVar 7) tNil))))) tNext)
    (C8.tCut (tIfS (tTest (tOp (rIn Z.K false) (tVar 5) (tTup (tCons (tC (.int 3)) (tCons (tC (.int 4)) tNil))))) (tSeq (tAsg (tOp (rAddU Z.K) (tOp (rI0 fun i j => .int (i - j)) (tVar 5) (tC (.int 2))) (tCallS (sp_Ldraw Z) (WE W) (tCons (tVar 0) (tCons (tOp (rIx Z.K) (tLst (tCons (tC (.int 3)) (tCons (tOp (rI0 fun i j => .int (i - j)) (tC (.int 15)) (tVar 5)) tNil))) (tCB rInt1 (tCons (tOp (rEqU Z.K) (tCallS (sp_Ldraw Z) (WE W) (tCons (tVar 0) (tCons (tC (.int 9)) tNil))) (tC (.int 0))) tNil))) tNil)))) (gName 12))
    (tSeq (tDrop (tBM Z.K "list" rAppend (tVar 10) (tCons (tCB rStrI (tCons (tVar 12) tNil)) tNil)))
    (tSeq (tDrop (tBM Z.K "list" rAppend (tVar 11) (tCons (tVar 12) tNil)))
    (tAsg (tOp (rI0 fun i j => .int (i - j)) (tOp (rAddU Z.K) (tVar 12) (tVar 5)) (tC (.int 3))) (gName 9))))) tNext)
    (C8.tCut (tIfS (tTest (tOp (rEqU Z.K) (tVar 5) (tC (.int 6)))) (tSeq (tAsg (tCallS (sp_Ldraw Z) (WE W) (tCons (tVar 0) (tCons (tCB (rLen Z.K) (tCons (tVar 1) tNil)) tNil))) (gName 7))
    (tSeq (tDrop (tBM Z.K "list" rAppend (tVar 10) (tCons (tOp (rIx Z.K) (tOp (rIx Z.K) (tVar 1) (tVar 7)) (tC (.int 0))) tNil)))
    (tSeq (tDrop (tBM Z.K "list" rAppend (tVar 11) (tCons (tVar 7) tNil)))
    (tAsg (tOp (rIx Z.K) (tOp (rIx Z.K) (tVar 1) (tVar 7)) (tC (.int 2))) (gName 9))))) tNext)
    (tSeq (tFor (iRng1 (tCons (tVar 9) tNil)) (gName 13) (tSeq (tAsg (tCallS (sp_Lshape Z n) (WE W) (tCons (tVar 0) (tCons (tVar 1) (tCons (tVar 2) (tCons (tVar 3) (tCons (tOp (rAddU Z.K) (tVar 4) (tC (.int 1))) tNil)))))) (gUn Z.K 2 (gCons (gName 14) (gCons (gName 15) gNil))))
    (tSeq (tDrop (tBM Z.K "list" rExtend (tVar 10) (tCons (tVar 14) tNil)))
    (tDrop (tBM Z.K "list" rExtend (tVar 11) (tCons (tVar 15) tNil))))))
    (tRet (tTup (tCons (tVar 10) (tCons (tVar 11) tNil))))))))))))))))))
def t_Lprogram (Z : Adr) (W : WX) : TS := (tSeq (tAsg (tCallS (sp_Lheads Z) (WE W) (tCons (tVar 0) (tCons (tVar 1) tNil))) (gName 3))
    (tSeq (tAsg (tCB (rTupOf Z.K) (tCons (tLc (iList Z.K (tVar 3)) (gUn Z.K 3 (gCons (gName 4) (gCons (gName 5) (gCons (gName 6) gNil)))) tYes (tTup (tCons (tVar 4) (tCons (tVar 5) tNil))) [13, 4, 5, 6]) tNil)) (gName 7))
    (tSeq (tAsg (tLst (tCons (tCB (rLen Z.K) (tCons (tVar 3) tNil)) tNil)) (gName 8))
    (tSeq (tFor (iList Z.K (tVar 3)) (gUn Z.K 3 (gCons (gName 4) (gCons (gName 5) (gCons (gName 6) gNil)))) (tDrop (tBM Z.K "list" rExtend (tVar 8) (tCons (tLst (tCons (tVar 6) (tCons (tCB (rLen Z.K) (tCons (tVar 5) tNil)) tNil))) tNil))))
    (tSeq (tAsg (tLst tNil) (gName 9))
    (tSeq (tFor (iList Z.K (tVar 3)) (gUn Z.K 3 (gCons (gName 4) (gCons (gName 5) (gCons (gName 6) gNil)))) (tSeq (tAsg (tCallS (sp_Lshape Z 12) (WE W) (tCons (tVar 0) (tCons (tVar 3) (tCons (tVar 5) (tCons (tLst (tCons (tVar 2) tNil)) (tCons (tC (.int 1)) tNil)))))) (gUn Z.K 2 (gCons (gName 10) (gCons (gName 11) gNil))))
    (tSeq (tAsg (tOp (rAddU Z.K) (tOp (rAddU Z.K) (tOp (rAddU Z.K) (tOp (rAddU Z.K) (tLst (tCons (tC (.str "fun")) (tCons (tVar 4) tNil))) (tCB (rListOf Z.K) (tCons (tSl (rSlU Z.K) (tVar 5) tNoPart (tPart (tVar 6))) tNil))) (tLst (tCons (tC (.str "with")) tNil))) (tCB (rListOf Z.K) (tCons (tSl (rSlU Z.K) (tVar 5) (tPart (tVar 6)) tNoPart) tNil))) (tLst (tCons (tC (.str "is")) tNil))) (gName 12))
    (tSeq (tDrop (tBM Z.K "list" rAppend (tVar 9) (tCons (tOp (rAddU Z.K) (tVar 12) (tVar 10)) tNil)))
    (tDrop (tBM Z.K "list" rExtend (tVar 8) (tCons (tVar 11) tNil)))))))
    (tRet (tTup (tCons (tVar 7) (tCons (tVar 8) (tCons (tVar 9) tNil)))))))))))
def t_Lright (Z : Adr) (W : WX) : TS := (tSeq (tIfS (tOr (tNot (tB (tCB (rIsi3 Z.K) (tCons (tVar 0) (tCons (tC (.ref Z.c_NoText)) tNil))))) (tOr (tNot (tB (tCB (rIsi3 Z.K) (tCons (tVar 0) (tCons (tC (.ty "ValueError")) tNil))))) (tB (tCB (rIsi3 Z.K) (tCons (tVar 0) (tCons (tTup (tCons (tC (.ref Z.c_NoCode)) (tCons (tC (.ref Z.c_NoName)) (tCons (tC (.ref Z.c_NoRow)) (tCons (tC (.ref Z.c_NoSheet)) tNil))))) tNil)))))) (tRet (tC (.bl false))) tNext)
    (tRet (tAndV (tCB (rIsi2 Z.K) (tCons (tKf Z.K (tVar 0) "at") (tCons (tC (.ty "int")) tNil))) (tAndV (tNotV (tCB (rIsi2 Z.K) (tCons (tKf Z.K (tVar 0) "at") (tCons (tC (.ty "bool")) tNil)))) (tOp (rEqU Z.K) (tKf Z.K (tVar 0) "at") (tVar 1))))))
def t_Lcaught (Z : Adr) (W : WX) : TS := (tSeq (tAsg (tC .non) (gName 1))
    (tSeq (sTryKeep Z.K (.ref Z.c_ChainError) 2 (fun W => (tDrop (tCallS (sp_read_text Z) (WE W) (tCons (tVar 0) tNil)))) (tAsg (tVar 2) (gName 1)) W)
    (tRet (tVar 1))))
def t_Lbad_names (Z : Adr) (W : WX) : TS := (tRet (tLst (tCons (tC (.str "Fun")) (tCons (tC (.str "a1")) (tCons (tC (.str "aaaaaaaaa")) (tCons (tC (.str "a_b")) (tCons (tC (.str "7")) (tCons (tC (.str "-")) (tCons (tC (.str "new")) (tCons (tC (.str "fun")) (tCons (tC (.str "call")) (tCons (tC (.str "set")) (tCons (tC (.str "ab-")) (tCons (tC (.str ".")) tNil))))))))))))))
def t_Lbad_heads (Z : Adr) (W : WX) : TS := (tSeq (tAsg (tOp (rIx Z.K) (tCallS (sp_Lbad_names Z) (WE W) tNil) (tCallS (sp_Ldraw Z) (WE W) (tCons (tVar 0) (tCons (tC (.int 12)) tNil)))) (gName 3))
    (tSeq (tAsg (tOp (rIx Z.K) (tVar 1) (tVar 2)) (gUn Z.K 2 (gCons (gName 4) (gCons (gName 5) gNil))))
    (tSeq (tAsg (tCallS (sp_Ldraw Z) (WE W) (tCons (tVar 0) (tCons (tC (.int 7)) tNil))) (gName 6))
    (tSeq (tAsg (tLst (tCons (tC (.str "fun")) (tCons (tVar 4) tNil))) (gName 7))
    (tSeq (tIfS (tTest (tOp (rEqU Z.K) (tVar 6) (tC (.int 0)))) (tRet (tTup (tCons (tLst (tCons (tC (.str "func")) (tCons (tVar 4) (tCons (tC (.str "with")) (tCons (tC (.str "is")) tNil))))) (tCons (tC (.int 0)) tNil)))) tNext)
    (tSeq (tIfS (tTest (tOp (rEqU Z.K) (tVar 6) (tC (.int 1)))) (tRet (tTup (tCons (tLst (tCons (tC (.str "fun")) (tCons (tOp (rIx Z.K) (tLst (tCons (tVar 3) (tCons (tOp (rIx Z.K) (tOp (rIx Z.K) (tVar 1) (tC (.int 0))) (tC (.int 0))) tNil))) (tOp rMul (tCB rInt1 (tCons (tOp (rI0 fun i j => .bl (decide (j < i))) (tVar 2) (tC (.int 0))) tNil)) (tCallS (sp_Ldraw Z) (WE W) (tCons (tVar 0) (tCons (tC (.int 2)) tNil))))) (tCons (tC (.str "with")) (tCons (tC (.str "is")) tNil))))) (tCons (tC (.int 1)) tNil)))) tNext)
    (tSeq (tIfS (tAnd (tTest (tOp (rEqU Z.K) (tVar 6) (tC (.int 2)))) (tTest (tOp (rEqU Z.K) (tVar 2) (tC (.int 0))))) (tRet (tTup (tCons (tOp (rAddU Z.K) (tVar 7) (tLst (tCons (tC (.str "p")) (tCons (tC (.str "with")) (tCons (tC (.str "is")) tNil))))) (tCons (tC (.int 2)) tNil)))) tNext)
    (tSeq (tIfS (tTest (tOp (rEqU Z.K) (tVar 6) (tC (.int 2)))) (tRet (tTup (tCons (tOp (rAddU Z.K) (tVar 7) (tLst (tCons (tC (.str "p")) (tCons (tC (.str "q")) (tCons (tC (.str "r")) (tCons (tC (.str "s")) (tCons (tC (.str "t")) (tCons (tC (.str "with")) (tCons (tC (.str "is")) tNil))))))))) (tCons (tC (.int 6)) tNil)))) tNext)
    (tSeq (tIfS (tAnd (tTest (tOp (rEqU Z.K) (tVar 6) (tC (.int 3)))) (tTest (tOp (rI0 fun i j => .bl (decide (j < i))) (tVar 2) (tC (.int 0))))) (tRet (tTup (tCons (tOp (rAddU Z.K) (tOp (rAddU Z.K) (tOp (rAddU Z.K) (tVar 7) (tLst (tCons (tC (.str "p")) (tCons (tC (.str "q")) (tCons (tC (.str "r")) (tCons (tC (.str "s")) (tCons (tC (.str "with")) tNil))))))) (tLc (iStr (tC (.str "abcdefghi"))) (gName 9) tYes (tOp (rAddU Z.K) (tC (.str "b")) (tVar 9)) [8, 9])) (tLst (tCons (tC (.str "is")) tNil))) (tCons (tC (.int 15)) tNil)))) tNext)
    (tSeq (tIfS (tTest (tOp (rEqU Z.K) (tVar 6) (tC (.int 3)))) (tRet (tTup (tCons (tOp (rAddU Z.K) (tOp (rAddU Z.K) (tOp (rAddU Z.K) (tVar 7) (tLst (tCons (tC (.str "with")) tNil))) (tLc (iStr (tC (.str "abcdefghijklm"))) (gName 9) tYes (tOp (rAddU Z.K) (tC (.str "b")) (tVar 9)) [8, 9])) (tLst (tCons (tC (.str "is")) tNil))) (tCons (tC (.int 15)) tNil)))) tNext)
    (tSeq (tIfS (tTest (tOp (rEqU Z.K) (tVar 6) (tC (.int 4)))) (tRet (tTup (tCons (tOp (rAddU Z.K) (tVar 7) (tLst (tCons (tC (.str "with")) (tCons (tC (.str "p")) (tCons (tC (.str "q")) (tCons (tC (.str "p")) (tCons (tC (.str "is")) tNil))))))) (tCons (tC (.int 5)) tNil)))) tNext)
    (tSeq (tIfS (tTest (tOp (rEqU Z.K) (tVar 6) (tC (.int 5)))) (tRet (tTup (tCons (tOp (rAddU Z.K) (tVar 7) (tLst (tCons (tC (.str "with")) (tCons (tC (.str "q")) (tCons (tOp (rIx Z.K) (tLst (tCons (tVar 3) (tCons (tC (.str "with")) tNil))) (tCallS (sp_Ldraw Z) (WE W) (tCons (tVar 0) (tCons (tC (.int 2)) tNil)))) (tCons (tC (.str "is")) tNil)))))) (tCons (tC (.int 4)) tNil)))) tNext)
    (tRet (tTup (tCons (tOp (rAddU Z.K) (tVar 7) (tLst (tCons (tOp (rIx Z.K) (tLst (tCons (tC (.str "is")) (tCons (tC (.str "set")) (tCons (tC (.str "0")) (tCons (tC (.str "fun")) tNil))))) (tCallS (sp_Ldraw Z) (WE W) (tCons (tVar 0) (tCons (tC (.int 4)) tNil)))) (tCons (tC (.str "with")) (tCons (tC (.str "is")) tNil))))) (tCons (tC (.int 2)) tNil))))))))))))))))
def t_Lbad_bodies (Z : Adr) (W : WX) : TS := (tSeq (tAsg (tLc (iTup Z.K (tVar 1)) (gUn Z.K 2 (gCons (gName 6) (gCons (gName 7) gNil))) tYes (tVar 6) [5, 6, 7]) (gName 2))
    (tSeq (tAsg (tOp (rIx Z.K) (tLc (iTup Z.K (tTup (tCons (tC (.str "zz")) (tCons (tC (.str "yy")) (tCons (tC (.str "xx")) (tCons (tC (.str "ww")) (tCons (tC (.str "vv")) tNil))))))) (gName 8) (tTest (tOp (rIn Z.K true) (tVar 8) (tVar 2))) (tVar 8) [5, 8]) (tC (.int 0))) (gName 3))
    (tSeq (tAsg (tLst (tCons (tTup (tCons (tLst (tCons (tC (.str "with")) tNil)) (tCons (tC (.int 0)) tNil))) (tCons (tTup (tCons (tLst (tCons (tC (.str "zz")) tNil)) (tCons (tC (.int 0)) tNil))) (tCons (tTup (tCons (tLst (tCons (tC (.str "01")) tNil)) (tCons (tC (.int 0)) tNil))) (tCons (tTup (tCons (tLst (tCons (tC (.str "-0")) tNil)) (tCons (tC (.int 0)) tNil))) (tCons (tTup (tCons (tLst (tCons (tC (.str "add")) (tCons (tC (.str "1")) (tCons (tC (.str "is")) tNil)))) (tCons (tC (.int 2)) tNil))) (tCons (tTup (tCons (tLst (tCons (tC (.str "+1")) tNil)) (tCons (tC (.int 0)) tNil))) (tCons (tTup (tCons (tLst (tCons (tC (.str "set")) (tCons (tC (.str "0")) tNil))) (tCons (tC (.int 1)) tNil))) tNil)))))))) (gName 4))
    (tSeq (tAsg (tOp (rAddU Z.K) (tVar 4) (tLst (tCons (tTup (tCons (tLst (tCons (tC (.str "set")) (tCons (tC (.str "zz")) (tCons (tC (.str "0")) tNil)))) (tCons (tC (.int 1)) tNil))) (tCons (tTup (tCons (tLst (tCons (tC (.str "all")) (tCons (tC (.str "0")) tNil))) (tCons (tC (.int 1)) tNil))) (tCons (tTup (tCons (tLst (tCons (tC (.str "all")) (tCons (tC (.str "13")) tNil))) (tCons (tC (.int 1)) tNil))) (tCons (tTup (tCons (tLst (tCons (tC (.str "all")) (tCons (tC (.str "01")) (tCons (tC (.str "1")) tNil)))) (tCons (tC (.int 1)) tNil))) tNil)))))) (gName 4))
    (tSeq (tAsg (tOp (rAddU Z.K) (tVar 4) (tLst (tCons (tTup (tCons (tLst (tCons (tC (.str "all")) (tCons (tC (.str "k")) (tCons (tC (.str "1")) tNil)))) (tCons (tC (.int 1)) tNil))) (tCons (tTup (tCons (tLst (tCons (tC (.str "pick")) (tCons (tC (.str "1")) (tCons (tC (.str "k")) (tCons (tC (.str "1")) tNil))))) (tCons (tC (.int 1)) tNil))) (tCons (tTup (tCons (tLst (tCons (tC (.str "pick")) (tCons (tC (.str "13")) (tCons (tC (.str "k")) tNil)))) (tCons (tC (.int 1)) tNil))) (tCons (tTup (tCons (tLst (tCons (tC (.str "pick")) (tCons (tC (.str "-1")) tNil))) (tCons (tC (.int 1)) tNil))) tNil)))))) (gName 4))
    (tSeq (tAsg (tOp (rAddU Z.K) (tVar 4) (tLst (tCons (tTup (tCons (tLst (tCons (tC (.str "call")) (tCons (tVar 3) tNil))) (tCons (tC (.int 1)) tNil))) (tCons (tTup (tCons (tLst (tCons (tC (.str "call")) (tCons (tC (.str "0")) tNil))) (tCons (tC (.int 1)) tNil))) (tCons (tTup (tCons (tLst (tCons (tC (.str "call")) (tCons (tC (.str "call")) tNil))) (tCons (tC (.int 1)) tNil))) (tCons (tTup (tCons (tLst (tCons (tOp rRepS (tC (.str "9")) (tC (.int 61))) tNil)) (tCons (tC (.int 0)) tNil))) (tCons (tTup (tCons (tLst (tCons (tC (.str "get")) (tCons (tC (.str "k")) tNil))) (tCons (tC (.int 0)) tNil))) tNil))))))) (gName 4))
    (tSeq (tAsg (tOp (rAddU Z.K) (tVar 4) (tLst (tCons (tTup (tCons (tOp (rAddU Z.K) (tOp rRep (tLst (tCons (tC (.str "fail")) tNil)) (tC (.int 10))) (tLst (tCons (tC (.str "k")) tNil))) (tCons (tC (.int 10)) tNil))) (tCons (tTup (tCons (tOp (rAddU Z.K) (tOp rRep (tLst (tCons (tC (.str "all")) (tCons (tC (.str "1")) tNil))) (tC (.int 10))) (tLst (tCons (tC (.str "k")) tNil))) (tCons (tC (.int 20)) tNil))) (tCons (tTup (tCons (tLst (tCons (tC (.str "k")) (tCons (tC (.str "k")) tNil))) (tCons (tC (.int 1)) tNil))) (tCons (tTup (tCons (tLst (tCons (tC (.str "0")) (tCons (tC (.str "is")) tNil))) (tCons (tC (.int 1)) tNil))) tNil)))))) (gName 4))
    (tSeq (tAsg (tOp (rAddU Z.K) (tVar 4) (tLst (tCons (tTup (tCons (tLst (tCons (tC (.str "add")) (tCons (tC (.str "k")) (tCons (tC (.str "k")) (tCons (tC (.str "k")) tNil))))) (tCons (tC (.int 3)) tNil))) (tCons (tTup (tCons (tLst (tCons (tC (.str "new")) (tCons (tC (.str "0")) tNil))) (tCons (tC (.int 1)) tNil))) (tCons (tTup (tCons (tLst (tCons (tC (.str "number")) (tCons (tC (.str "1")) tNil))) (tCons (tC (.int 0)) tNil))) (tCons (tTup (tCons (tLst (tCons (tC (.str "set")) (tCons (tC (.str "k")) (tCons (tC (.str "loop")) (tCons (tC (.str "0")) tNil))))) (tCons (tC (.int 4)) tNil))) tNil)))))) (gName 4))
    (tSeq (tAsg (tOp (rAddU Z.K) (tVar 4) (tLst (tCons (tTup (tCons (tOp (rAddU Z.K) (tOp rRep (tLst (tCons (tC (.str "set")) (tCons (tC (.str "k")) tNil))) (tC (.int 10))) (tLst (tCons (tC (.str "k")) tNil))) (tCons (tC (.int 20)) tNil))) (tCons (tTup (tCons (tLst (tCons (tC (.str "1_0")) tNil)) (tCons (tC (.int 0)) tNil))) tNil)))) (gName 4))
    (tSeq (tAsg (tOp (rAddU Z.K) (tVar 4) (tLst (tCons (tTup (tCons (tOp (rAddU Z.K) (tOp rRep (tLst (tCons (tC (.str "pick")) (tCons (tC (.str "2")) (tCons (tC (.str "0")) (tCons (tC (.str "0")) tNil))))) (tC (.int 9))) (tLst (tCons (tC (.str "pick")) (tCons (tC (.str "2")) (tCons (tC (.str "k")) tNil))))) (tCons (tC (.int 38)) tNil))) tNil))) (gName 4))
    (tSeq (tAsg (tOp (rAddU Z.K) (tVar 4) (tLst (tCons (tTup (tCons (tOp (rAddU Z.K) (tOp rRep (tLst (tCons (tC (.str "loop")) (tCons (tC (.str "0")) tNil))) (tC (.int 9))) (tLst (tCons (tC (.str "loop")) (tCons (tC (.str "k")) tNil)))) (tCons (tC (.int 19)) tNil))) (tCons (tTup (tCons (tOp (rAddU Z.K) (tOp rRep (tLst (tCons (tC (.str "put")) (tCons (tC (.str "1")) (tCons (tC (.str "k")) tNil)))) (tC (.int 9))) (tLst (tCons (tC (.str "put")) (tCons (tC (.str "1")) tNil)))) (tCons (tC (.int 28)) tNil))) tNil)))) (gName 4))
    (tSeq (tAsg (tOp (rAddU Z.K) (tVar 4) (tLst (tCons (tTup (tCons (tOp (rAddU Z.K) (tOp rRep (tLst (tCons (tC (.str "size")) tNil)) (tC (.int 10))) (tLst (tCons (tC (.str "k")) tNil))) (tCons (tC (.int 10)) tNil))) (tCons (tTup (tCons (tOp rRep (tLst (tCons (tC (.str "add")) (tCons (tC (.str "k")) tNil))) (tC (.int 10))) (tCons (tC (.int 19)) tNil))) (tCons (tTup (tCons (tOp (rAddU Z.K) (tOp rRep (tLst (tCons (tC (.str "push")) tNil)) (tC (.int 10))) (tLst (tCons (tC (.str "k")) tNil))) (tCons (tC (.int 10)) tNil))) tNil))))) (gName 4))
    (tRet (tOp (rIx Z.K) (tVar 4) (tCallS (sp_Ldraw Z) (WE W) (tCons (tVar 0) (tCons (tCB (rLen Z.K) (tCons (tVar 4) tNil)) tNil)))))))))))))))))
def t_Ltexts (Z : Adr) (W : WX) : TS := (tSeq (tAsg (tLc (iStr (tC (.str "abcdefghijklmnopq"))) (gName 3) tYes (tOp (rAddU Z.K) (tOp (rAddU Z.K) (tC (.str "fun ")) (tVar 3)) (tC (.str " with is 0"))) [2, 3]) (gName 0))
    (tSeq (tAsg (tLst (tCons (tTup (tCons (tBM Z.K "str" (rJoin Z.K) (tC (.str " ")) (tCons (tSl (rSlU Z.K) (tVar 0) tNoPart (tPart (tC (.int 16)))) tNil)) (tCons (tC .non) tNil))) (tCons (tTup (tCons (tBM Z.K "str" (rJoin Z.K) (tC (.str " ")) (tCons (tVar 0) tNil)) (tCons (tC (.int 80)) tNil))) (tCons (tTup (tCons (tC (.str "fun main with is call main 1")) (tCons (tC (.int 6)) tNil))) tNil)))) (gName 1))
    (tSeq (tDrop (tBM Z.K "list" rAppend (tVar 1) (tCons (tTup (tCons (tC (.str "fun main with is call f 1 fun f a with is 0 fun f with is 0")) (tCons (tC (.int 14)) tNil))) tNil)))
    (tSeq (tDrop (tBM Z.K "list" rAppend (tVar 1) (tCons (tTup (tCons (tC (.str "fun main with is call f fun f with is 0 fun f a with is 0")) (tCons (tC (.int 12)) tNil))) tNil)))
    (tSeq (tAsg (tOp (rAddU Z.K) (tVar 1) (tLst (tCons (tTup (tCons (tC (.str "fun main with is call f 1 2 fun f a b")) (tCons (tC (.int 12)) tNil))) (tCons (tTup (tCons (tC (.str "fun main with is call f 1 fun f a b is 0")) (tCons (tC (.int 7)) tNil))) tNil)))) (gName 1))
    (tRet (tOp (rAddU Z.K) (tVar 1) (tLst (tCons (tTup (tCons (tOp (rAddU Z.K) (tOp (rAddU Z.K) (tC (.str "fun main with is 0 fun f a with is")) (tOp rRepS (tC (.str " call f")) (tC (.int 10)))) (tC (.str " a"))) (tCons (tC (.int 30)) tNil))) tNil)))))))))
def t_Lspoilt (Z : Adr) (W : WX) : TS := (tSeq (tAsg (tCallS (sp_Ldraw Z) (WE W) (tCons (tVar 0) (tCons (tCB (rLen Z.K) (tCons (tVar 2) tNil)) tNil))) (gName 3))
    (tSeq (tAsg (tCB (rSumL Z.K) (tCons (tSl (rSlU Z.K) (tVar 2) tNoPart (tPart (tVar 3))) (tCons (tLst tNil) tNil))) (gName 4))
    (tSeq (tIfS (tTest (tOp (rEqU Z.K) (tCallS (sp_Ldraw Z) (WE W) (tCons (tVar 0) (tCons (tC (.int 2)) tNil))) (tC (.int 0)))) (tSeq (tAsg (tCallS (sp_Lbad_heads Z) (WE W) (tCons (tVar 0) (tCons (tVar 1) (tCons (tVar 3) tNil)))) (gUn Z.K 2 (gCons (gName 5) (gCons (gName 6) gNil))))
    (tRet (tTup (tCons (tOp (rAddU Z.K) (tOp (rAddU Z.K) (tVar 4) (tVar 5)) (tLst (tCons (tC (.str "0")) tNil))) (tCons (tOp (rAddU Z.K) (tCB (rLen Z.K) (tCons (tVar 4) tNil)) (tVar 6)) tNil))))) tNext)
    (tSeq (tAsg (tLst (tCons (tC (.str "fun")) (tCons (tOp (rIx Z.K) (tOp (rIx Z.K) (tVar 1) (tVar 3)) (tC (.int 0))) (tCons (tC (.str "with")) (tCons (tC (.str "k")) (tCons (tC (.str "is")) tNil)))))) (gName 7))
    (tSeq (tAsg (tCallS (sp_Lbad_bodies Z) (WE W) (tCons (tVar 0) (tCons (tVar 1) tNil))) (gUn Z.K 2 (gCons (gName 5) (gCons (gName 6) gNil))))
    (tRet (tTup (tCons (tOp (rAddU Z.K) (tOp (rAddU Z.K) (tVar 4) (tVar 7)) (tVar 5)) (tCons (tOp (rAddU Z.K) (tOp (rAddU Z.K) (tCB (rLen Z.K) (tCons (tVar 4) tNil)) (tC (.int 5))) (tVar 6)) tNil)))))))))
def t_Llone (Z : Adr) (W : WX) : TS := (tSeq (tAsg (tLst tNil) (gName 2))
    (tSeq (tFor (iList Z.K (tVar 1)) (gName 3) (tDrop (tBM Z.K "list" rAppend (tVar 2) (tCons (tOp (rAddU Z.K) (tSl (rSlU Z.K) (tVar 3) tNoPart (tPart (tOp (rAddU Z.K) (tBM Z.K "list" (rIndex Z.K) (tVar 3) (tCons (tC (.str "is")) tNil)) (tC (.int 1))))) (tLst (tCons (tC (.str "0")) tNil))) tNil))))
    (tRet (tVar 2))))
def t_law (Z : Adr) (W : WX) : TS := (tSeq (tFor (iRng1 (tCons (tC (.int 2)) tNil)) (gName 1) (tSeq (tAsg (tCallS (sp_Lpen Z) (WE W) (tCons (tVar 0) (tCons (tVar 1) tNil))) (gName 2))
    (tSeq (tAsg (tCallS (sp_Lprogram Z) (WE W) (tCons (tVar 2) (tCons (tC (.int 4)) (tCons (tC (.int 6)) tNil)))) (gUn Z.K 3 (gCons (gName 3) (gCons (gName 4) (gCons (gName 5) gNil)))))
    (tSeq (tAsg (tCallS (sp_Llone Z) (WE W) (tCons (tVar 3) (tCons (tVar 5) tNil))) (gName 6))
    (tSeq (tIfS (tTest (tOp rNotU (tCallS (sp_Lcaught Z) (WE W) (tCons (tBM Z.K "str" (rJoin Z.K) (tC (.str "\n")) (tCons (tLc (iList Z.K (tVar 6)) (gName 14) tYes (tBM Z.K "str" (rJoin Z.K) (tC (.str " ")) (tCons (tVar 14) tNil)) [13, 14]) tNil)) tNil)) (tC .non))) (tRet (tC (.bl false))) tNext)
    (tSeq (tFor (iRng1 (tCons (tC (.int 8)) tNil)) (gName 7) (tSeq (tAsg (tCallS (sp_Lspoilt Z) (WE W) (tCons (tVar 2) (tCons (tVar 3) (tCons (tVar 6) tNil)))) (gUn Z.K 2 (gCons (gName 8) (gCons (gName 9) gNil))))
    (tIfS (tNot (tB (tCallS (sp_Lright Z) (WE W) (tCons (tCallS (sp_Lcaught Z) (WE W) (tCons (tBM Z.K "str" (rJoin Z.K) (tC (.str " ")) (tCons (tVar 8) tNil)) tNil)) (tCons (tVar 9) tNil))))) (tRet (tC (.bl false))) tNext)))
    (tSeq (tAsg (tSl (rSlU Z.K) (tCB (rSumL Z.K) (tCons (tSl (rSlU Z.K) (tVar 5) tNoPart (tPart (tC (.int 1)))) (tCons (tLst tNil) tNil))) tNoPart (tPart (tOp (rAddU Z.K) (tC (.int 1)) (tCallS (sp_Ldraw Z) (WE W) (tCons (tVar 2) (tCons (tOp (rAddU Z.K) (tC (.int 4)) (tCB (rLen Z.K) (tCons (tOp (rIx Z.K) (tOp (rIx Z.K) (tVar 3) (tC (.int 0))) (tC (.int 1))) tNil))) tNil)))))) (gName 8))
    (tIfS (tNot (tB (tCallS (sp_Lright Z) (WE W) (tCons (tCallS (sp_Lcaught Z) (WE W) (tCons (tBM Z.K "str" (rJoin Z.K) (tC (.str " ")) (tCons (tVar 8) tNil)) tNil)) (tCons (tCB (rLen Z.K) (tCons (tVar 8) tNil)) tNil))))) (tRet (tC (.bl false))) tNext))))))))
    (tSeq (tFor (iList Z.K (tCallS (sp_Ltexts Z) (WE W) tNil)) (gUn Z.K 2 (gCons (gName 10) (gCons (gName 9) gNil))) (tSeq (tAsg (tCallS (sp_Lcaught Z) (WE W) (tCons (tVar 10) tNil)) (gName 11))
    (tIfS (tOr (tAnd (tTest (tOp rIsU (tVar 9) (tC .non))) (tTest (tOp rNotU (tVar 11) (tC .non)))) (tAnd (tTest (tOp rNotU (tVar 9) (tC .non))) (tNot (tB (tCallS (sp_Lright Z) (WE W) (tCons (tVar 11) (tCons (tVar 9) tNil))))))) (tRet (tC (.bl false))) tNext)))
    (tSeq (tFor (iList Z.K (tLst (tCons (tC .non) (tCons (tC (.int 7)) (tCons (tC (.bl true)) (tCons (tLst tNil) (tCons (tLst (tCons (tC (.str "fun")) tNil)) (tCons (tTup (tCons (tC (.str "fun")) tNil)) (tCons tDNewK tNil))))))))) (gName 12) (tIfS (tNot (tB (tCallS (sp_Lright Z) (WE W) (tCons (tCallS (sp_Lcaught Z) (WE W) (tCons (tVar 12) tNil)) (tCons (tC (.int 0)) tNil))))) (tRet (tC (.bl false))) tNext))
    (tRet (tAndV (tCallS (sp_Lright Z) (WE W) (tCons (tCallS (sp_Lcaught Z) (WE W) (tCons (tC (.str "")) tNil)) (tCons (tC (.int 0)) tNil))) (tCallS (sp_Lright Z) (WE W) (tCons (tCallS (sp_Lcaught Z) (WE W) (tCons (tC (.str " \n ")) tNil)) (tCons (tC (.int 0)) tNil))))))))
end My
local macro_rules | `(tactic| walk_at "own") => `(tactic| first
  | ((with_reducible refine' My.fg_Reader_words ?zt ?zh ?_); (case zt => with_reducible assumption); case zh => walk_at "hp")
  | ((with_reducible refine' My.fg_Reader_at ?zt ?zh ?_); (case zt => with_reducible assumption); case zh => walk_at "hp")
  | ((with_reducible refine' My.fg_Reader_heads ?zt ?zh ?_); (case zt => with_reducible assumption); case zh => walk_at "hp")
  | ((with_reducible refine' My.ms_Reader_is_left ?zh ?_); case zh => walk_at "hp")
  | ((with_reducible refine' My.ms_Reader_due ?zh ?_); case zh => walk_at "hp")
  | ((with_reducible refine' My.ms_Reader_fixed_word ?zh ?_); case zh => walk_at "hp")
  | ((with_reducible refine' My.ms_Reader_fresh_name ?zh ?_); case zh => walk_at "hp")
  | ((with_reducible refine' My.ms_Reader_boxes_to ?zh ?_); case zh => walk_at "hp")
  | ((with_reducible refine' My.ms_Reader_how_many ?zh ?_); case zh => walk_at "hp")
  | ((with_reducible refine' My.ms_Reader_node ?zh ?_); case zh => walk_at "hp")
  | ((with_reducible refine' My.ms_Reader_own_numbers ?zh ?_); case zh => walk_at "hp"))
/-! ### the steps, tried in turn -/
local macro_rules | `(tactic| walk_at "hp") => `(tactic| first
  | with_reducible assumption
  | with_reducible exact L2.upd_same
  | ((with_reducible refine' Z.up_new ?zn ?zq); (case zn => with_reducible assumption); case zq => walk_at "hp")
  | ((with_reducible refine' Z.up_far ?zn ?zq); (case zn => walk_at "ne"); case zq => walk_at "hp")
  | ((with_reducible refine' Z.sm_rd ?zn ?zq); (case zn => with_reducible assumption); case zq => walk_at "hp")
  | ((with_reducible refine' Z.But.rd ?zn ?zm ?zq); (case zn => with_reducible assumption); (case zm => walk_at "ne"); case zq => walk_at "hp"))
local macro_rules | `(tactic| walk_at "ne") => `(tactic| first
  | with_reducible assumption
  | ((with_reducible refine' Ne.symm ?_); with_reducible assumption)
  | ((with_reducible refine' L2.ne_of_none ?zn ?zm); (case zn => with_reducible assumption); case zm => with_reducible assumption)
  | ((with_reducible refine' Ne.symm (L2.ne_of_none ?zn ?zm)); (case zn => with_reducible assumption); case zm => with_reducible assumption))
local macro_rules | `(tactic| walk_at "sq") => `(tactic| first
  | with_reducible assumption
  | ((with_reducible refine' L2.SqL.of ?zq); case zq => walk_at "hp")
  | ((with_reducible refine' L2.SqT.of ?zq); case zq => walk_at "hp")
  | ((with_reducible refine' Z.Same.seq ?zn ?zq); (case zn => with_reducible assumption); case zq => walk_at "sq")
  | ((with_reducible refine' Z.same_sqT ?zn ?zq); (case zn => with_reducible assumption); case zq => walk_at "sq")
  | ((with_reducible refine' Z.But.sqL ?zn ?zm ?zq); (case zn => with_reducible assumption); (case zm => walk_at "ne"); case zq => walk_at "sq")
  | ((with_reducible refine' Z.But.sqT ?zn ?zm ?zq); (case zn => with_reducible assumption); (case zm => walk_at "ne"); case zq => walk_at "sq"))
local macro_rules | `(tactic| walk_at "fit") => `(tactic| first
  | (refine Nat.le_of_ble_eq_true ?_; rfl) | omega)
local macro_rules | `(tactic| walk_at "s") => `(tactic| first
  | with_reducible refine Z.s_seq ?_
  | with_reducible refine Z.s_set ?_
  | ((with_reducible refine' Z.s_var ?zh ?_); case zh => exact rfl)
  | with_reducible refine Z.s_c ?_
  | with_reducible refine Z.s_op ?_
  | with_reducible refine Z.s_cons ?_
  | with_reducible refine Z.s_nil ?_
  | with_reducible refine Z.s_cb ?_
  | with_reducible refine Z.s_callS ?_
  | with_reducible refine Z.s_rI0 ?_
  | with_reducible refine Z.s_add_i ?_
  | with_reducible refine Z.s_test ?_
  | with_reducible refine Z.s_zB ?_
  | with_reducible refine Z.s_if ?_
  | with_reducible refine Z.s_ret ?_
  | with_reducible refine Z.s_next ?_
  | with_reducible refine Z.s_drop ?_
  | with_reducible refine Z.s_eq_i ?_
  | with_reducible refine Z.s_ne_i ?_
  | with_reducible refine Z.s_eq_s ?_
  | with_reducible refine Z.s_ne_s ?_
  | with_reducible refine Z.s_and ?_
  | with_reducible refine Z.s_or ?_
  | with_reducible refine Z.s_not ?_
  | with_reducible refine Z.s_chain ?_
  | with_reducible refine Z.s_B ?_
  | with_reducible refine Z.s_tup ?_
  | with_reducible refine Z.s_lst ?_
  | ((with_reducible refine' Z.s_ztup ?zh ?_); case zh => exact rfl)
  | ((with_reducible refine' Z.s_zlst ?zh ?_); case zh => exact rfl)
  | with_reducible refine Z.s_un ?_
  | with_reducible refine Z.s_rU ?_
  | with_reducible refine Z.s_p18 ?_
  | with_reducible refine Z.s_min2 ?_
  | with_reducible refine Z.s_max2 ?_
  | with_reducible refine Z.s_abs ?_
  | with_reducible refine Z.s_int1 ?_
  | with_reducible refine Z.s_int1b ?_
  | with_reducible refine Z.s_bm ?_
  | with_reducible refine Z.s_bm0 ?_
  | with_reducible refine Z.s_fld ?_
  | with_reducible refine Z.s_dget ?_
  | with_reducible refine Z.s_din ?_
  | with_reducible refine Z.s_dnotin ?_
  | with_reducible refine Z.s_dnew ?_
  | with_reducible refine Z.s_dput ?_
  | with_reducible refine Z.s_disp ?_
  | with_reducible refine Z.s_asg ?_
  | with_reducible refine Z.s_gname ?_
  | with_reducible refine Z.s_gsub ?_
  | with_reducible refine Z.s_gcons ?_
  | with_reducible refine Z.s_gnil ?_
  | with_reducible refine Z.s_for ?_
  | with_reducible refine Z.s_rng1 ?_
  | with_reducible refine Z.s_rng2 ?_
  | with_reducible refine Z.s_itl ?_
  | with_reducible refine Z.s_itt ?_
  | with_reducible refine Z.s_isU_n ?_
  | with_reducible refine Z.s_notU_n ?_
  | with_reducible refine Z.s_isU_b ?_
  | with_reducible refine Z.s_notU_b ?_
  | with_reducible refine Z.s_isN_i ?_
  | with_reducible refine Z.s_isN_r ?_
  | with_reducible refine Z.s_isN_s ?_
  | with_reducible refine Z.s_isN_n ?_
  | with_reducible refine Z.s_notN_i ?_
  | with_reducible refine Z.s_notN_r ?_
  | with_reducible refine Z.s_notN_s ?_
  | with_reducible refine Z.s_notN_n ?_
  | with_reducible refine Z.s_slL ?_
  | with_reducible refine Z.s_nopart ?_
  | with_reducible refine Z.s_part ?_
  | with_reducible refine Z.s_zpart ?_
  | ((with_reducible refine' Z.s_cutL ?zh ?_); case zh => walk_at "sq")
  | with_reducible refine Z.s_ift ?_
  | with_reducible refine Z.s_iff ?_
  | with_reducible refine Z.s_nt ?_
  | with_reducible refine Z.s_nf ?_
  | with_reducible refine Z.s_zbody ?_
  | with_reducible refine Z.s_lc ?_
  | with_reducible refine Z.s_yes ?_
  | ((with_reducible refine Z.s_wipe ?zh ?_); case zh => rfl)
  | ((with_reducible refine' Z.s_zitl ?zh ?_); case zh => walk_at "sq")
  | ((with_reducible refine' Z.s_zitt ?zh ?_); case zh => walk_at "sq")
  | with_reducible refine Z.s_ifE ?_
  | with_reducible refine Z.s_andV ?_
  | with_reducible refine Z.s_orV ?_
  | with_reducible refine Z.s_notV ?_
  | with_reducible refine Z.s_retN ?_
  | with_reducible refine Z.s_break ?_
  | with_reducible refine Z.s_cont ?_
  | ((with_reducible refine Z.s_zrng1 ?zh ?_); case zh => omega)
  | ((with_reducible refine Z.s_zrng2 ?zh ?_); case zh => omega)
  | ((with_reducible refine Z.s_modp ?zh ?_); case zh => omega)
  | ((with_reducible refine Z.s_fdvp ?zh ?_); case zh => omega)
  | ((with_reducible refine Z.s_mulp ?zh ?_); case zh => omega)
  | ((with_reducible refine' Z.s_len_l ?zh ?_); case zh => walk_at "sq")
  | ((with_reducible refine' Z.s_len_t ?zh ?_); case zh => walk_at "sq")
  | ((with_reducible refine' Z.s_zTyL ?zh ?_); case zh => walk_at "hp")
  | with_reducible refine Z.s_meth ?_
  | with_reducible refine Z.s_make ?_
  | with_reducible refine Z.s_fldset ?_
  | with_reducible refine Z.s_rev ?_
  | ((with_reducible refine' Z.s_zrev ?zh ?_); case zh => walk_at "sq")
  | with_reducible refine Z.s_lstRg ?_
  | with_reducible refine Z.isi_int ?_
  | with_reducible refine Z.isi_int_bool ?_
  | ((with_reducible refine' Z.isi_list ?zh ?_); case zh => walk_at "sq")
  | ((with_reducible refine' Z.isi_tup ?zh ?_); case zh => walk_at "sq")
  | walk_at "own"
  | with_reducible refine Z.s_zTyS ?_
  | ((with_reducible refine' Z.s_zTyL' ?zh ?_); case zh => walk_at "sq")
  | ((with_reducible refine' Z.s_listof_l ?zh ?_); case zh => walk_at "sq")
  | ((with_reducible refine' Z.s_listof_t ?zh ?_); case zh => walk_at "sq")
  | ((with_reducible refine' Z.s_tupof_l ?zh ?_); case zh => walk_at "sq")
  | ((with_reducible refine' Z.s_tupof_t ?zh ?_); case zh => walk_at "sq")
  | ((with_reducible refine' Z.s_gun_t ?zh ?zl ?_); (case zh => walk_at "sq"); case zl => rfl)
  | ((with_reducible refine' Z.s_gun_l ?zh ?zl ?_); (case zh => walk_at "sq"); case zl => rfl))
local macro_rules | `(tactic| walk_at "zz") => `(tactic| repeat (walk_at "s"))
/-! ### pens and frames -/
local macro_rules | `(tactic| walk_at "st") => `(tactic| first
  | with_reducible assumption
  | ((with_reducible refine' Z.Pn.new ?zs ?zn); (case zn => with_reducible assumption); case zs => walk_at "st")
  | ((with_reducible refine' Z.Pn.same ?zs ?zn); (case zn => with_reducible assumption); case zs => walk_at "st")
  | ((with_reducible refine' Z.Pn.butN ?zs ?zb ?zn); (case zb => with_reducible assumption); (case zn => walk_at "np"); case zs => walk_at "st"))
local macro_rules | `(tactic| walk_at "np") => `(tactic| first
  | with_reducible assumption
  | ((with_reducible refine' Ne.symm ?_); with_reducible assumption)
  | ((with_reducible refine' Z.Pn.ne ?zs ?zn); (case zn => with_reducible assumption); case zs => walk_at "st")
  | ((with_reducible refine' Ne.symm (Z.Pn.ne ?zs ?zn)); (case zn => with_reducible assumption); case zs => walk_at "st")
  | ((with_reducible refine' L2.ne_of_none ?zn ?zm); (case zm => with_reducible assumption); case zn => walk_at "hp")
  | ((with_reducible refine' Ne.symm (L2.ne_of_none ?zn ?zm)); (case zm => with_reducible assumption); case zn => walk_at "hp"))
local macro_rules | `(tactic| walk_at "no") => `(tactic| first
  | with_reducible assumption
  | ((with_reducible refine' Z.Same.free ?zs ?zn); (case zn => with_reducible assumption); case zs => walk_at "sm")
  | ((with_reducible refine' Z.But.none ?zs ?zm ?zn); (case zn => with_reducible assumption); (case zs => walk_at "bt"); case zm => walk_at "np"))
local macro_rules | `(tactic| walk_at "sm") => `(tactic| first
  | with_reducible assumption
  | ((with_reducible refine' Z.same_new ?zn); (case zn => with_reducible assumption))
  | ((with_reducible refine' Z.Same.trans ?zs (Z.same_new ?zn)); (case zn => with_reducible assumption); case zs => walk_at "sm")
  | ((with_reducible refine' Z.same_own ?zs ?zb ?zn); (case zb => with_reducible assumption); (case zs => walk_at "sm"); case zn => walk_at "no")
  | ((with_reducible refine' Z.Same.trans ?zs ?zn); (case zn => with_reducible assumption); case zs => walk_at "sm")
  | with_reducible exact Z.Same.refl _)
local macro_rules | `(tactic| walk_at "bt") => `(tactic| first
  | with_reducible assumption
  | ((with_reducible refine' Z.But.new ?zs ?zn); (case zn => with_reducible assumption); case zs => walk_at "bt")
  | ((with_reducible refine' Z.But.trans ?zs ?zn); (case zn => with_reducible assumption); case zs => walk_at "bt")
  | ((with_reducible refine' Z.But.trans ?zs (Z.But.of ?zn)); (case zn => with_reducible assumption); case zs => walk_at "bt")
  | ((with_reducible refine' Z.But.own ?zs ?zb ?zn); (case zb => with_reducible assumption); (case zs => walk_at "bt"); case zn => walk_at "no")
  | with_reducible exact Z.But.refl _ _)
local macro_rules | `(tactic| walk_at "tk") => `(tactic| first
  | ((with_reducible refine' My.c_take ?zm ?zs ?_); (case zm => omega); (case zs => walk_at "st")))
/-! ### nodes in a law's text -/
local macro_rules | `(tactic| walk_at "ow") => `(tactic| first
  | exact My.own5
  | exact My.own7
  | exact My.own8 (by omega) rfl
  | exact My.own0 (by first | assumption | exact My.fig_sm (by omega))
  | exact My.own1 (by omega)
  | exact My.own2 (by omega)
  | exact My.own3 (by omega) rfl
  | exact My.own4 (m := 2) (by omega) rfl
  | exact My.own4 (m := 3) (by omega) rfl
  | exact My.own6 (n := 0) rfl rfl rfl
  | exact My.own6 (n := 1) rfl rfl rfl)
local macro_rules | `(tactic| walk_at "bi") => `(tactic| first
  | ((with_reducible refine' My.bi_nil ?zo); case zo => walk_at "ow")
  | ((with_reducible refine' My.bi_c ?zo); case zo => walk_at "ow")
  | ((with_reducible refine' My.bi_neg ?zo); case zo => walk_at "ow")
  | ((refine' My.bi_v rfl ?zo); case zo => walk_at "ow")
  | ((refine' My.bi_take rfl ?zd ?zo); (case zd => decide); case zo => (intro z z0 z1; walk_at "ow"))
  | ((refine' My.bi_num rfl ?zo); case zo => (intro z hz; exact My.own0 hz)))
local macro_rules | `(tactic| walk_at "bp") => `(tactic| first
  | with_reducible exact My.bp_nil
  | ((with_reducible refine' My.bp_cons ?zd ?zp); (case zd => walk_at "bd"); case zp => walk_at "bp"))
local macro_rules | `(tactic| walk_at "bd") => `(tactic| first
  | assumption
  | exact My.bd_var rfl (by assumption) (by assumption) (by assumption) (by omega) (by assumption)
  | ((with_reducible refine' My.bd_node (by assumption) (by decide) ?zo ?zp); (case zp => walk_at "bp"); case zo => walk_at "bi")
  | ((with_reducible refine' My.bd_loop (by assumption) ?zo ?zp); (case zp => walk_at "bp"); case zo => walk_at "bi"))
local macro_rules | `(tactic| walk_at "zn") => `(tactic| repeat ((fail_if_success (with_reducible refine Z.s_tup ?_)); walk_at "s"))
namespace My
open PySem Z
open L2 hiding rLen Same Same.refl Same.trans Same.free Same.seq Same.made
variable [iq : TQ]
theorem rd_NoText_init {Z : Adr} (T : Top Z) {a0 a1 : V} {H : Hp} {Q : VK} {E : XK} (h : q_NoText_init Z a0 a1 H Q E) : t_NoText_init Z (fun cls d _ H => E cls d H) ⟨fun _ H' => Q .non H', Q, fun _ _ => False, fun _ _ => False⟩ [some a0, some a1] H := by
  unfold t_NoText_init
  obtain ⟨p, rfl, hp, q⟩ := h
  walk_at "zz"
  refine s_vei ?_
  walk_at "zz"
  refine ⟨p, Z.c_NoText, [_], rfl, by show 1 ≤ 1000; decide, T.ox_NoText, hp, ?_⟩
  walk_at "zz"
  refine s_ost ?_
  walk_at "zz"
  refine ⟨p, Z.c_NoText, rfl, T.ox_NoText, T.na_NoText_at, .inl ⟨hp, fun d hd hdp => ?_⟩⟩
  exact q d hd hdp

theorem rd_word_of {Z : Adr} (T : Top Z) {a0 : V} {H : Hp} {Q : VK} {E : XK} (h : q_word_of Z a0 H Q E) : t_word_of Z (fun cls d _ H => E cls d H) ⟨fun _ H' => Q .non H', Q, fun _ _ => False, fun _ _ => False⟩ [some a0] H := by
  unfold t_word_of
  obtain ⟨i, w, rfl, hw, q⟩ := h
  walk_at "zz"
  refine s_add_t (T.s_EARLY H) (T.s_LATE H) (by simp) (by simp) (by decide) ?_
  intro t ht
  walk_at "zz"
  refine s_ix_t (SqT.of upd_same) (at_of (j := i) (v := .str w) (by omega) ?_) ?_
  · show (WD.map V.str)[i]? = _
    rw [List.getElem?_map, hw]
    rfl
  · exact q _ (same_new ht)

theorem rd_kind_of {Z : Adr} (T : Top Z) {a0 : V} {H : Hp} {Q : VK} {E : XK} (h : q_kind_of Z a0 H Q E) : t_kind_of Z (fun cls d _ H => E cls d H) ⟨fun _ H' => Q .non H', Q, fun _ _ => False, fun _ _ => False⟩ [some a0, none] H := by
  unfold t_kind_of
  obtain ⟨w, rfl, q⟩ := h
  walk_at "zz"
  refine loop_range (fun i σ' H' => Same H H' ∧ kindO (2 + (i : Int)) (WD.drop i) w = kindW w ∧ ∃ x, σ' = [some (.str w), x]) ⟨Same.refl H, by simp [kindW], _, rfl⟩ ?_ ?_
  · rintro i σ' H' hi ⟨S, e, x, rfl⟩
    have hi' : i < WD.length := by rw [WD_len]; exact hi
    walk_at "zz"
    refine cl_word_of ⟨i, WD[i], rfl, List.getElem?_eq_getElem hi', fun H2 S2 => ?_⟩
    rw [List.drop_eq_getElem_cons hi'] at e
    have e : (if WD[i] = w then some (2 + (i : Int)) else kindO (2 + (i : Int) + 1) (WD.drop (i + 1)) w) = kindW w := e
    walk_at "zz"
    refine s_ifd (fun c => ?_) (fun c => ?_)
    · rw [if_pos c] at e
      walk_at "zz"
      have := q _ (S.trans S2)
      rw [← e] at this
      exact this
    · rw [if_neg c] at e
      walk_at "zz"
      exact ⟨S.trans S2, by rw [← e]; congr 1, _, rfl⟩
  · rintro σ' H' ⟨S, e, x, rfl⟩
    walk_at "zz"
    have e : none = kindW w := e
    have := q _ S
    rw [← e] at this
    exact this

theorem rd_parts_of {Z : Adr} (T : Top Z) {a0 : V} {H : Hp} {Q : VK} {E : XK} (h : q_parts_of Z a0 H Q E) : t_parts_of Z (fun cls d _ H => E cls d H) ⟨fun _ H' => Q .non H', Q, fun _ _ => False, fun _ _ => False⟩ [some a0] H := by
  unfold t_parts_of
  obtain ⟨i, rfl, q⟩ := h
  unfold manyP at q
  walk_at "zz"
  refine s_ifd (fun c => ?_) (fun c => ?_)
  · rw [if_pos c] at q
    walk_at "zz"
    exact q _ (Same.refl H)
  · rw [if_neg c] at q
    walk_at "zz"
    intro t ht
    walk_at "zz"
    refine s_in_t (SqT.of upd_same) rfl rfl ?_
    walk_at "zz"
    have S := same_new (o := .tup [.int 7, .int 18]) ht
    have e : inV (.int i) [.int 7, .int 18] = decide (i = 7 ∨ i = 18) := by
      simp only [inV, List.any, eqV, Bool.or_false]
      rw [Bool.decide_or]
      congr 1 <;> (rw [Bool.eq_iff_iff]; simp; omega)
    rw [e]
    refine s_ifd (fun c => ?_) (fun c => ?_)
    · rw [if_pos c] at q
      walk_at "zz"
      exact q _ S
    · rw [if_neg c] at q
      walk_at "zz"
      refine s_ifd (fun c => ?_) (fun c => ?_)
      · rw [if_pos c] at q
        walk_at "zz"
        exact q _ S
      · rw [if_neg c] at q
        walk_at "zz"
        exact q _ S

theorem rd_is_of {Z : Adr} (T : Top Z) {a0 a1 a2 : V} {H : Hp} {Q : VK} {E : XK} (h : q_is_of Z a0 a1 a2 H Q E) : t_is_of Z (fun cls d _ H => E cls d H) ⟨fun _ H' => Q .non H', Q, fun _ _ => False, fun _ _ => False⟩ [some a0, some a1, some a2, none] H := by
  unfold t_is_of
  obtain ⟨w, sg, m, rfl, rfl, rfl, hw, q⟩ := h
  have hz : w.length ≤ sizeLine := Nat.le_trans hw (by decide)
  walk_at "zz"
  refine s_len_s hz ?_
  walk_at "zz"
  by_cases c1 : 1 ≤ (w.length : Int)
  · rw [decide_eq_true c1]
    walk_at "zz"
    by_cases c2 : (w.length : Int) ≤ m
    · rw [decide_eq_true c2]
      walk_at "zz"
      refine s_itstr ?_
      walk_at "zz"
      refine s_zitstr ?_
      refine loop_str (fun i σ' H' => Same H H' ∧ (∀ c ∈ w.cps.toList.take i, c ∈ sg.cps.toList) ∧ ∃ x, σ' = [some (.str w), some (.str sg), some (.int m), x]) ⟨Same.refl H, by simp, _, rfl⟩ ?_ ?_
      · rintro i cc σ' H' hc ⟨S, ha, x, rfl⟩
        have hc' : w.cps.toList[i]? = some cc := by rw [Array.getElem?_toList]; exact hc
        walk_at "zz"
        refine s_notInSg ?_
        walk_at "zz"
        refine s_ifnn (fun n => ?_) (fun n => ?_)
        · walk_at "zz"
          have e : isOf w sg m = false := by
            unfold isOf
            rw [decide_eq_true c1, decide_eq_true c2, Bool.true_and, Bool.true_and]
            refine List.all_eq_false.mpr ⟨cc, List.mem_of_getElem? hc', by simpa using n⟩
          have := q _ S
          rwa [e] at this
        · walk_at "zz"
          refine ⟨S, fun c hm => ?_, _, rfl⟩
          rw [List.take_add_one, hc'] at hm
          rcases List.mem_append.mp hm with z | z
          · exact ha c z
          · obtain rfl : c = cc := by simpa using z
            exact n
      · rintro σ' H' ⟨S, ha, x, rfl⟩
        walk_at "zz"
        have e : isOf w sg m = true := by
          unfold isOf
          rw [decide_eq_true c1, decide_eq_true c2, Bool.true_and, Bool.true_and]
          refine List.all_eq_true.mpr fun c hm => decide_eq_true (ha c ?_)
          rwa [← Array.length_toList, List.take_length]
        have := q _ S
        rwa [e] at this
    · rw [decide_eq_false c2]
      walk_at "zz"
      have e : isOf w sg m = false := by unfold isOf; rw [decide_eq_false c2]; simp
      have := q _ (Same.refl H)
      rwa [e] at this
  · rw [decide_eq_false c1]
    walk_at "zz"
    have e : isOf w sg m = false := by unfold isOf; rw [decide_eq_false c1]; simp
    have := q _ (Same.refl H)
    rwa [e] at this

theorem rd_is_name {Z : Adr} (T : Top Z) {a0 : V} {H : Hp} {Q : VK} {E : XK} (h : q_is_name Z a0 H Q E) : t_is_name Z (fun cls d _ H => E cls d H) ⟨fun _ H' => Q .non H', Q, fun _ _ => False, fun _ _ => False⟩ [some a0] H := by
  unfold t_is_name
  obtain ⟨w, rfl, hw, q⟩ := h
  walk_at "zz"
  intro t ht
  refine s_in_t (SqT.of upd_same) rfl rfl ?_
  walk_at "zz"
  have ei : inV (.str w) [V.str "fun", .str "with", .str "is"] = decide (w ∈ (["fun", "with", "is"] : List Str)) := inV_strs w ["fun", "with", "is"]
  rw [ei]
  refine s_ifd (fun c => ?_) (fun c => ?_)
  · walk_at "zz"
    have e : isName w = false := by unfold isName; rw [decide_eq_true c]; rfl
    have := q _ (same_new (o := .tup [V.str "fun", .str "with", .str "is"]) ht)
    rwa [e] at this
  · walk_at "zz"
    refine cl_kind_of ⟨w, rfl, fun H1 S1 => ?_⟩
    have S01 := (same_new (o := .tup [V.str "fun", .str "with", .str "is"]) ht).trans S1
    cases e2 : kindW w with
    | some i =>
      show rNotU (.int i) .non _ _
      walk_at "zz"
      have e : isName w = false := by unfold isName; rw [e2]; simp
      have := q _ S01
      rwa [e] at this
    | none =>
      show rNotU .non .non _ _
      walk_at "zz"
      refine cl_is_of ⟨w, LET, 8, rfl, rfl, rfl, hw, fun H2 S2 => ?_⟩
      have e : isName w = isOf w LET 8 := by unfold isName; rw [e2, decide_eq_false c]; rfl
      have := q _ (S01.trans S2)
      rwa [e] at this

theorem rd_is_number_of {Z : Adr} (T : Top Z) {a0 a1 : V} {H : Hp} {Q : VK} {E : XK} (h : q_is_number_of Z a0 a1 H Q E) : t_is_number_of Z (fun cls d _ H => E cls d H) ⟨fun _ H' => Q .non H', Q, fun _ _ => False, fun _ _ => False⟩ [some a0, some a1, none] H := by
  unfold t_is_number_of
  obtain ⟨w, m, rfl, rfl, hw, q⟩ := h
  have hz : w.length ≤ sizeLine := Nat.le_trans hw (by decide)
  have z0 : ("0" : Str) = ⟨#[48]⟩ := by kernel_rfl
  have key : ∀ {fg : Str} {H1 : Hp}, fg = figsW w → Same H H1 → fg.length ≤ 10000000 → (isOf fg FIG m = false → Q (.bl false) H1) ∧ ∀ cc, isOf fg FIG m = true → fg.cps.toList.head? = some cc → Q (.bl (!decide ((⟨#[cc]⟩ : Str) = "0") || decide (w = "0"))) H1 := by
    intro fg H1 e S hl
    subst e
    refine ⟨fun c => ?_, fun cc c hc => ?_⟩
    · have := q _ S
      have e2 : isNumM w m = false := by unfold isNumM; rw [c]; rfl
      rwa [e2] at this
    · have := q _ S
      have hh : (figsW w).cps.toList.head? = some cc := hc
      have e2 : isNumM w m = (!decide ((⟨#[cc]⟩ : Str) = "0") || decide (w = "0")) := by
        unfold isNumM
        rw [c, Bool.true_and, hh]
        congr 2
        by_cases d : cc = 48
        · rw [d]; rw [z0]; simp
        · rw [decide_eq_false (fun y => d (Option.some.inj y)), decide_eq_false (fun y => d (by rw [z0] at y; injection y with y; injection y with y; injection y))]
      rwa [e2] at this
  walk_at "zz"
  refine s_cut (fun σ' H' => Same H H' ∧ σ' = [some (.str w), some (.int m), some (.str (figsW w))]) ?_ ?_
  · walk_at "zz"
    refine s_slS hz ?_
    walk_at "zz"
    refine s_ifd (fun c => ?_) (fun c => ?_)
    · walk_at "zz"
      refine s_slS hz ?_
      walk_at "zz"
      exact ⟨Same.refl H, by unfold figsW; rw [if_pos c]; rfl⟩
    · walk_at "zz"
      exact ⟨Same.refl H, by unfold figsW; rw [if_neg c]; rfl⟩
  · rintro σ' H1 ⟨S1, rfl⟩
    have hl : (figsW w).length ≤ 10000000 := by
      unfold figsW
      by_cases c : cutS w none (some 1) = "-"
      · rw [if_pos c]; exact Nat.le_trans (cutS_le w _ _) hw
      · rw [if_neg c]; exact hw
    walk_at "zz"
    refine cl_is_of ⟨_, FIG, m, rfl, rfl, rfl, hl, fun H2 S2 => ?_⟩
    obtain ⟨k1, k2⟩ := key rfl (S1.trans S2) hl
    walk_at "zz"
    cases e : isOf (figsW w) FIG m with
    | false =>
      walk_at "zz"
      exact k1 e
    | true =>
      walk_at "zz"
      obtain ⟨cc, hc, hd⟩ := isOf_at e
      refine s_ix_s (Nat.le_trans hl (by decide)) hc ?_
      walk_at "zz"
      have := k2 cc e hd
      cases x : decide ((⟨#[cc]⟩ : Str) = "0") with
      | false => rw [x] at this; walk_at "zz"; exact this
      | true => rw [x] at this; walk_at "zz"; exact this

theorem rd_is_number_word {Z : Adr} (T : Top Z) {a0 : V} {H : Hp} {Q : VK} {E : XK} (h : q_is_number_word Z a0 H Q E) : t_is_number_word Z (fun cls d _ H => E cls d H) ⟨fun _ H' => Q .non H', Q, fun _ _ => False, fun _ _ => False⟩ [some a0] H := by
  unfold t_is_number_word
  obtain ⟨w, rfl, hw, q⟩ := h
  walk_at "zz"
  refine cl_is_number_of ⟨w, 60, rfl, rfl, hw, fun H1 S1 => ?_⟩
  exact q _ S1

theorem rd_words_of {Z : Adr} (T : Top Z) {a0 : V} {H : Hp} {Q : VK} {E : XK} (h : q_words_of Z a0 H Q E) : t_words_of Z (fun cls d _ H => E cls d H) ⟨fun _ H' => Q .non H', Q, fun _ _ => False, fun _ _ => False⟩ [some a0, none, none] H := by
  unfold t_words_of
  rcases h with ⟨n, q⟩ | h
  · obtain ⟨tt, ty, k1⟩ := n.ty (K := Z.K)
    walk_at "zz"
    refine s_isi (bb := false) (.ty "str") ty (kit_ty k1) ?_
    walk_at "zz"
    refine s_raiseO ?_
    walk_at "zz"
    exact raise_NoText (Z := Z) (W := fun cls d _ H' => E cls d H') (σ := []) (k := 0) fun d' H' S x => q d' H' S x
  obtain ⟨t, rfl, ht, q⟩ := h
  have lr : (Txt.replace t "\n" " ").length ≤ 2000001 := by
    have := TK.replace_len t "\n" " "
    have e : (" " : Str).length = 1 := rfl
    rw [e] at this
    omega
  walk_at "zz"
  refine s_isi (bb := true) (.ty _) (.base (.str _)) (kit_ty (by decide +kernel)) ?_
  walk_at "zz"
  refine s_repl ?_
  walk_at "zz"
  refine s_zrepl (by have e : (" " : Str).length = 1 := rfl; rw [e]; omega) ?_
  walk_at "zz"
  refine ⟨_, _, rfl, rfl, rfl, Nat.le_trans (Nat.add_le_add_right lr 2) (by decide), fun l0 hl0 => ?_⟩
  obtain ⟨ps, eps⟩ : ∃ ps, Txt.split (Txt.replace t "\n" " ") " " = ps := ⟨_, rfl⟩
  have hps : ps.length < sizeLine := by
    rw [← eps]
    exact Nat.lt_of_le_of_lt (split_len _ _) (Nat.lt_of_le_of_lt (Nat.add_le_add_right lr 2) (by decide))
  rw [eps]
  walk_at "zz"
  have ew : wordsT t = ps.filter fun w : Str => !decide (w = "") := by unfold wordsT; rw [eps]
  have S0 : Same H (upd H l0 (.lst (ps.map V.str))) := same_new hl0
  try refine s_zitl (SqL.of upd_same) ?_
  refine lc_lst (ps.map V.str) (fun D i H' => Same H H' ∧ H D = none ∧ H' l0 = some (.lst (ps.map V.str)) ∧ H' D = some (.lst (((ps.take i).filter fun w : Str => !decide (w = "")).map V.str))) (fun D hD => ?_) (fun D i H' hD hi ⟨S, _, h0, _⟩ => SqL.of h0) ?_ ?_
  · have nD : l0 ≠ D := ne_of_none upd_same hD
    exact ⟨S0.trans (same_new hD), S0.free hD, (upd_ne nD).trans upd_same, upd_same⟩
  · rintro D i x H' hD hx ⟨S, hDn, h0, hd⟩
    rw [List.getElem?_map] at hx
    obtain ⟨w, hw, rfl⟩ := Option.map_eq_some_iff.mp hx
    have et : ps.take (i + 1) = ps.take i ++ [w] := by rw [List.take_add_one, hw]; rfl
    walk_at "zz"
    refine s_ifk (fun c => ?_) (fun c => ?_)
    · have c' : ¬ w = "" := by simpa using c
      walk_at "zz"
      refine c_acc hd ?_ fun H2 B2 h2 => ?_
      · rw [List.length_map]
        exact Nat.lt_of_le_of_lt (Nat.le_trans (List.length_filter_le _ _) (by rw [List.length_take]; omega)) hps
      · have nD : l0 ≠ D := ne_of_none upd_same hD
        refine ⟨same_own S B2 hDn, hDn, B2.rd nD h0, ?_⟩
        rw [h2, et, List.filter_append, List.map_append]
        simp [c']
    · have c' : w = "" := by simpa using c
      refine ⟨S, hDn, h0, ?_⟩
      rw [hd, et, List.filter_append]
      simp [c']
  · rintro D H' hD ⟨S, hDn, h0, hd⟩
    walk_at "zz"
    refine q D H' S hDn ?_
    rw [hd, ew, List.length_map, List.take_length]

theorem rd_heads_inp {Z : Adr} (T : Top Z) {a0 : V} {H : Hp} {Q : VK} {E : XK} (h : q_heads_inp Z a0 H Q E) : t_heads_inp Z (fun cls d _ H => E cls d H) ⟨fun _ H' => Q .non H', Q, fun _ _ => False, fun _ _ => False⟩ [some a0, none, none, none, none] H := by
  unfold t_heads_inp
  obtain ⟨lw, ws, rfl, hw, hn, q⟩ := h
  walk_at "zz"
  intro ld hld
  have nw : lw ≠ ld := ne_of_none hw hld
  have hw0 := up_new (u := .dK []) hld hw
  walk_at "zz"
  refine s_zrng1 (by rw [List.length_map]; omega) ?_
  rw [show (((ws.map V.str).length : Int) - 1).toNat = ws.length - 1 by rw [List.length_map]; omega]
  refine loop_range (fun i σ' H' => ∃ kvs x y, Same H H' ∧ H' lw = some (.lst (ws.map V.str)) ∧ H' ld = some (.dK kvs) ∧ HdsAt H' (headsT ws i).1 kvs ∧ σ' = [some (.ref lw), some (.ref ld), some (.int (headsT ws i).2), x, y]) ⟨[], _, _, same_new hld, hw0, upd_same, rfl, rfl⟩ ?_ ?_
  · rintro i σ' H1 hi ⟨kvs, x, y, S1, hw1, hd1, hk1, rfl⟩
    have hi1 : i < ws.length := by omega
    have hi2 : i + 1 < ws.length := by omega
    have e1 : ws[i]? = some ws[i] := List.getElem?_eq_getElem hi1
    have e2 : ws[i + 1]? = some ws[i + 1] := List.getElem?_eq_getElem hi2
    have e2' : ws.getD (i + 1) ("" : Str) = ws[i + 1] := by rw [List.getD_eq_getElem?_getD, e2]; rfl
    obtain ⟨hl, n0, n1⟩ := headsT_len ws i
    walk_at "zz"
    refine s_ix_l (SqL.of hw1) (at_of (j := i) (v := .str ws[i]) (by omega) (by rw [List.getElem?_map, e1]; rfl)) ?_
    walk_at "zz"
    refine s_ifd (fun c => ?_) (fun c => ?_)
    · have eF : ws[i]? = some ("fun" : Str) := by rw [e1, c]
      have eT : headsT ws (i + 1) = ((if (hdOf (headsT ws i).1 ws[i + 1]).isSome = true then (headsT ws i).1 else (headsT ws i).1 ++ [(ws[i + 1], ((headsT ws i).2, (endW ws ws.length (i + 2) : Int) - i - 2))]), (headsT ws i).2 + 1) := by
        rw [← e2']
        show (if ws[i]? = some ("fun" : Str) then _ else _) = _
        rw [if_pos eF]
      refine s_cut (fun σ2 H2 => ∃ kvs x y, Same H H2 ∧ H2 lw = some (.lst (ws.map V.str)) ∧ H2 ld = some (.dK kvs) ∧ HdsAt H2 (headsT ws (i + 1)).1 kvs ∧ σ2 = [some (.ref lw), some (.ref ld), some (.int (headsT ws i).2), x, y]) ?_ ?_
      · walk_at "zz"
        refine s_ix_l (SqL.of hw1) (at_of (j := i + 1) (v := .str ws[i + 1]) (by omega) (by rw [List.getElem?_map, e2]; rfl)) ?_
        walk_at "zz"
        refine s_zDNotIn_s (.inl hd1) ?_
        rcases hk1.val (w := ws[i + 1]) with ⟨v1, v2⟩ | ⟨m, t, v1, v2, v3⟩
        · have v2' : valV kvs (Sum.inr ws[i + 1] : Key) = none := v2
          rw [v2']
          simp only [Option.isSome_none, Option.isSome_some]
          walk_at "zz"
          refine s_while (fun m σ2 H2 => H2 = H1 ∧ ∃ (k : Nat) (kk : Int), kk = k ∧ m = ws.length - k ∧ i + 2 ≤ k ∧ k ≤ ws.length + 1 ∧ endW ws ws.length (i + 2) = endW ws ws.length k ∧ σ2 = [some (.ref lw), some (.ref ld), some (.int (headsT ws i).2), some (.int (0 + (i : Int))), some (.int kk)]) (ws.length - (i + 2)) ⟨rfl, i + 2, 0 + (i : Int) + 2, by omega, rfl, by omega, by omega, rfl, rfl⟩ ?_
          rintro m σ2 H2 ⟨rfl, k, kk, ekk, rfl, hk2, hk3, ek, rfl⟩
          walk_at "zz"
          rw [List.length_map]
          by_cases ck : k < ws.length
          · have e3 : ws[k]? = some ws[k] := List.getElem?_eq_getElem ck
            rw [decide_eq_true (show kk < (ws.length : Int) by omega)]
            walk_at "zz"
            subst ekk
            refine s_ixN (SqL.of hw1) (by rw [List.getElem?_map, e3]; rfl) ?_
            walk_at "zz"
            refine s_ifnn (fun cw => ?_) (fun cw => ?_)
            · walk_at "zz"
              exact ⟨_, by omega, rfl, k + 1, (k : Int) + 1, by omega, rfl, by omega, by omega, by rw [ek]; exact endW_go ws ⟨ck, by rw [e3]; simpa using cw⟩ _ _ (by omega) (by omega), rfl⟩
            · have es : endW ws ws.length (i + 2) = k := by rw [ek]; exact endW_stop ws (fun z => z.2 (by rw [e3, cw])) _
              walk_at "zz"
              intro t ht
              walk_at "zz"
              refine s_ix_l (SqL.of (up_new ht hw1)) (at_of (j := i + 1) (v := .str ws[i + 1]) (by omega) (by rw [List.getElem?_map, e2]; rfl)) ?_
              walk_at "zz"
              refine c_dput_s (up_new ht hd1) (by rw [hk1.len]; exact small1000000 (by omega)) fun H3 B3 h3 => ?_
              rw [putK_new _ v2] at h3
              have nt : t ≠ ld := (ne_of_none hd1 ht).symm
              have ht3 : H3 t = some (.tup [.int (headsT ws i).2, .int ((endW ws ws.length (i + 2) : Int) - i - 2)]) := by
                have ev : (k : Int) - (0 + (i : Int)) - 2 = (endW ws ws.length (i + 2) : Int) - i - 2 := by rw [es]; omega
                rw [B3.rd nt (upd_same (H := H2) (a := t)), ev]
              have ef : (headsT ws (i + 1)).1 = (headsT ws i).1 ++ [(ws[i + 1], ((headsT ws i).2, (endW ws ws.length (i + 2) : Int) - i - 2))] := by
                rw [eT, v1]
                rfl
              refine ⟨_, _, _, same_own (S1.trans (same_new ht)) B3 hld, B3.rd nw (up_new ht hw1), h3, ?_, rfl⟩
              rw [ef]
              exact HdsAt.app ht3 ((hk1.mono (TupS.new ht)).mono (TupS.but B3 (up_new ht hd1) (by simp)))
          · have es : endW ws ws.length (i + 2) = k := by rw [ek]; exact endW_stop ws (fun z => ck z.1) _
            rw [decide_eq_false (show ¬ kk < (ws.length : Int) by omega)]
            subst ekk
            walk_at "zz"
            intro t ht
            walk_at "zz"
            refine s_ix_l (SqL.of (up_new ht hw1)) (at_of (j := i + 1) (v := .str ws[i + 1]) (by omega) (by rw [List.getElem?_map, e2]; rfl)) ?_
            walk_at "zz"
            refine c_dput_s (up_new ht hd1) (by rw [hk1.len]; exact small1000000 (by omega)) fun H3 B3 h3 => ?_
            rw [putK_new _ v2] at h3
            have nt : t ≠ ld := (ne_of_none hd1 ht).symm
            have ht3 : H3 t = some (.tup [.int (headsT ws i).2, .int ((endW ws ws.length (i + 2) : Int) - i - 2)]) := by
              have ev : (k : Int) - (0 + (i : Int)) - 2 = (endW ws ws.length (i + 2) : Int) - i - 2 := by rw [es]; omega
              rw [B3.rd nt (upd_same (H := H2) (a := t)), ev]
            have ef : (headsT ws (i + 1)).1 = (headsT ws i).1 ++ [(ws[i + 1], ((headsT ws i).2, (endW ws ws.length (i + 2) : Int) - i - 2))] := by
              rw [eT, v1]
              rfl
            refine ⟨_, _, _, same_own (S1.trans (same_new ht)) B3 hld, B3.rd nw (up_new ht hw1), h3, ?_, rfl⟩
            rw [ef]
            exact HdsAt.app ht3 ((hk1.mono (TupS.new ht)).mono (TupS.but B3 (up_new ht hd1) (by simp)))
        · have v2' : valV kvs (Sum.inr ws[i + 1] : Key) = some (.ref t) := v2
          rw [v2']
          simp only [Option.isSome_none, Option.isSome_some]
          walk_at "zz"
          exact ⟨kvs, _, _, S1, hw1, hd1, by rw [eT, v1]; exact hk1, rfl⟩
      · rintro σ2 H2 ⟨kvs2, x2, y2, S2, hw2, hd2, hk2, rfl⟩
        walk_at "zz"
        exact ⟨kvs2, _, _, S2, hw2, hd2, hk2, by rw [eT]; rfl⟩
    · have eF : ¬ ws[i]? = some ("fun" : Str) := by rw [e1]; simpa using c
      have eT : headsT ws (i + 1) = headsT ws i := by
        show (if ws[i]? = some ("fun" : Str) then _ else _) = _
        rw [if_neg eF]
      walk_at "zz"
      exact ⟨kvs, _, _, S1, hw1, hd1, by rw [eT]; exact hk1, by rw [eT]; rfl⟩
  · rintro σ' H1 ⟨kvs, x, y, S1, hw1, hd1, hk1, rfl⟩
    walk_at "zz"
    exact q ld kvs H1 S1 hld hd1 hk1

theorem rd_Reader_init {Z : Adr} (T : Top Z) {a0 a1 : V} {H : Hp} {Q : VK} {E : XK} (h : q_Reader_init Z a0 a1 H Q E) : t_Reader_init Z (fun cls d _ H => E cls d H) ⟨fun _ H' => Q .non H', Q, fun _ _ => False, fun _ _ => False⟩ [some a0, some a1] H := by
  unfold t_Reader_init
  obtain ⟨p, dx, lw, ws, rfl, rfl, hp, hw, hn, hs, q⟩ := h
  walk_at "zz"
  refine fn_Reader_words T hp fun H1 B1 hp1 => ?_
  walk_at "zz"
  refine fn_Reader_at T hp1 fun H2 B2 hp2 => ?_
  walk_at "zz"
  have nw : lw ≠ p := ne_of hw hp (by simp)
  have hw2 := B2.rd nw (B1.rd nw hw)
  refine cl_heads_inp ⟨lw, ws, rfl, hw2, hn, fun ld kvs H3 S3 hld h3 hk => ?_⟩
  have hp3 := S3 _ _ hp2
  walk_at "zz"
  refine fn_Reader_heads T hp3 fun H4 B4 hp4 => ?_
  walk_at "zz"
  have nd : ld ≠ p := (ne_of_none hp2 hld).symm
  exact q ld kvs H4 (((B1.trans B2).trans (.of S3)).trans B4) ⟨hp4, B4.rd nw (S3 _ _ hw2), B4.rd nd h3, hk.mono (TupS.but B4 hp3 (by simp)), fun x hx => (hs x hx).1, fun x hx => (hs x hx).2, hn, Nat.zero_le _⟩ ((B1.trans B2).none nd hld)

theorem rd_Reader_is_left {Z : Adr} (T : Top Z) {a0 : V} {H : Hp} {Q : VK} {E : XK} (h : q_Reader_is_left Z a0 H Q E) : t_Reader_is_left Z (fun cls d _ H => E cls d H) ⟨fun _ H' => Q .non H', Q, fun _ _ => False, fun _ _ => False⟩ [some a0] H := by
  unfold t_Reader_is_left
  obtain ⟨p, dx, lw, ld, ws, k, hd, kvs, rfl, R, q⟩ := h
  have hp := R.o
  have hw := R.w
  walk_at "zz"
  have := q _ (Same.refl H)
  rwa [show decide (k < ws.length) = decide ((k : Int) < ((ws.map V.str).length : Nat)) by rw [List.length_map]; exact decide_eq_decide.mpr (by omega)] at this

theorem rd_Reader_due {Z : Adr} (T : Top Z) {F : NdefX.NF} {f : Addr} {lp : List V → Hp → VK → Prop} {a0 : V} {H : Hp} {Q : VK} {E : XK} (h : q_Reader_due Z F lp a0 H Q E) : t_Reader_due Z (fun cls d _ H => E cls d H) F f lp ⟨fun _ H' => Q .non H', Q, fun _ _ => False, fun _ _ => False⟩ [some a0, some (.ref f)] H := by
  unfold t_Reader_due
  obtain ⟨p, dx, lw, ld, ws, k, hd, kvs, fit, rfl, R, hc, hlp, q, qe⟩ := h
  have hp := R.o
  have hw := R.w
  walk_at "zz"
  refine cl_Reader_is_left ⟨p, dx, lw, ld, ws, k, hd, kvs, rfl, R, fun H1 S1 => ?_⟩
  have R1 := R.same S1
  have hp1 := R1.o
  have hw1 := R1.w
  have err : dueW fit ws k = .error k → ∀ {H2 : Hp}, Same H H2 → zMkO Z.c_NoText (sp_NoText_init Z) [.int (k : Int)] H2 fun cls d H' => E cls d H' := fun e H2 S =>
    raise_NoText (Z := Z) (W := fun cls d _ H' => E cls d H') (σ := []) fun d H' S' x => qe _ e d H' (But.of (S.trans S')) x
  walk_at "zz"
  cases e : ws[k]? with
  | none =>
    have hk := List.getElem?_eq_none_iff.mp e
    have ee : dueW fit ws k = .error k := by unfold dueW; rw [e]
    rw [decide_eq_false (show ¬ k < ws.length by omega)]
    walk_at "zz"
    refine s_raiseO ?_
    walk_at "zz"
    exact err ee S1
  | some w =>
    have hk := (List.getElem?_eq_some_iff.mp e).1
    rw [decide_eq_true hk]
    walk_at "zz"
    refine s_tApp ?_
    walk_at "zz"
    refine s_ixN (SqL.of hw1) (by rw [List.getElem?_map, e]; rfl) ?_
    walk_at "zz"
    refine s_zapp (S1 _ _ hc) ?_
    refine hlp w H1 _ S1 (List.mem_of_getElem? e) (R.sz _ (List.mem_of_getElem? e)) fun H2 S2 => ?_
    have S02 := S1.trans S2
    have R2 := R.same S02
    have hp2 := R2.o
    walk_at "zz"
    cases f : fit w with
    | false =>
      have ee : dueW fit ws k = .error k := by unfold dueW; rw [e]; simp [f]
      walk_at "zz"
      refine s_raiseO ?_
      walk_at "zz"
      exact err ee S02
    | true =>
      have ee : dueW fit ws k = .ok (w, k + 1) := by unfold dueW; rw [e]; simp [f]
      walk_at "zz"
      refine fp_Reader_at T hp2 fun H3 B3 hp3 => ?_
      have R3 : RdAt Z H3 p dx lw ld ws (k + 1) hd kvs := R2.go B3 hp3 hk
      have hw3 := R3.w
      walk_at "zz"
      refine s_ix_l (SqL.of hw3) (at_of (j := k) (v := .str w) (by omega) (by rw [List.getElem?_map, e]; rfl)) ?_
      exact q (w, k + 1) ee _ ((But.of S02).trans B3) R3

theorem rd_Reader_fixed_word {Z : Adr} (T : Top Z) {a0 a1 : V} {H : Hp} {Q : VK} {E : XK} (h : q_Reader_fixed_word Z a0 a1 H Q E) : t_Reader_fixed_word Z (fun cls d _ H => E cls d H) ⟨fun _ H' => Q .non H', Q, fun _ _ => False, fun _ _ => False⟩ [some a0, some a1] H := by
  unfold t_Reader_fixed_word
  obtain ⟨p, dx, lw, ld, ws, k, hd, kvs, x, rfl, rfl, TT, R, q, qe⟩ := h
  have hp := R.o
  walk_at "zz"
  refine s_methL ?_
  walk_at "zz"
  refine s_zlam TT.t_Reader_fixed_word fun F H1 S1 T1 c1 => ?_
  refine cl_Reader_due ⟨p, dx, lw, ld, ws, k, hd, kvs, (fun w => decide (w = x)), rfl, R.same S1, c1, fun w H2 Q2 S2 hw hz qq => ?_, fun r e H2 B2 R2 => ?_, fun e ee => (qe e ee).trans (.of S1)⟩
  · show (tOp _ _ _ : TE) _ _ _
    walk_at "zz"
    exact qq _ (Same.refl _)
  · walk_at "zz"
    exact q r e _ ((But.of S1).trans B2) R2

theorem rd_Reader_fresh_name {Z : Adr} (T : Top Z) {a0 a1 : V} {H : Hp} {Q : VK} {E : XK} (h : q_Reader_fresh_name Z a0 a1 H Q E) : t_Reader_fresh_name Z (fun cls d _ H => E cls d H) ⟨fun _ H' => Q .non H', Q, fun _ _ => False, fun _ _ => False⟩ [some a0, some a1] H := by
  unfold t_Reader_fresh_name
  obtain ⟨p, dx, lw, ld, lt, ws, k, hd, kvs, tk, rfl, rfl, hl, TT, R, q, qe⟩ := h
  have hp := R.o
  walk_at "zz"
  refine s_methL ?_
  walk_at "zz"
  refine s_zlam TT.t_Reader_fresh_name fun F H1 S1 T1 c1 => ?_
  refine cl_Reader_due ⟨p, dx, lw, ld, ws, k, hd, kvs, (fun w => isName w && !decide (w ∈ tk)), rfl, R.same S1, c1, fun w H2 Q2 S2 hw hz qq => ?_, fun r e H2 B2 R2 => ?_, fun e ee => (qe e ee).trans (.of S1)⟩
  · show (tAndV _ _ : TE) _ _ _
    walk_at "zz"
    refine cl_is_name ⟨w, rfl, hz, fun H3 S3 => ?_⟩
    walk_at "zz"
    have this : Q2 (.bl (isName w && !decide (w ∈ tk))) H3 := qq _ S3
    cases e : isName w with
    | false =>
      walk_at "zz"
      rw [e] at this
      exact this
    | true =>
      walk_at "zz"
      refine s_nin_l (((S1.trans S2).trans S3).seq hl) rfl (flat_strs tk) ?_
      rw [e] at this
      rw [inV_strs]
      exact this
  · exact q r e _ ((But.of S1).trans B2) R2

theorem rd_Reader_boxes_to {Z : Adr} (T : Top Z) {a0 a1 a2 a3 : V} {H : Hp} {Q : VK} {E : XK} (h : q_Reader_boxes_to Z a0 a1 a2 a3 H Q E) : t_Reader_boxes_to Z (fun cls d _ H => E cls d H) ⟨fun _ H' => Q .non H', Q, fun _ _ => False, fun _ _ => False⟩ [some a0, some a1, some a2, some a3] H := by
  unfold t_Reader_boxes_to
  obtain ⟨p, dx, lw, ld, lb, ws, k, hd, kvs, en, bx, m, rfl, rfl, rfl, rfl, hen, hb, nwb, hbl, hm, TT, R, q, qe⟩ := h
  have hp := R.o
  have nbp : lb ≠ p := ne_of hb R.o (by simp)
  walk_at "zz"
  refine s_while (fun n σ' H' => ∃ (f : Nat) (bx' : List Str) (k' : Nat), n = f ∧ But2 p lb H H' ∧ RdAt Z H' p dx lw ld ws k' hd kvs ∧ TabsZ Z H' ∧ H' lb = some (.lst (bx'.map V.str)) ∧ (bx'.length : Int) ≤ 20 + k' ∧ ws.length < k' + f ∧ boxesW ws en m (ws.length + 1) bx k = boxesW ws en m f bx' k' ∧ σ' = [some (.ref p), some (.str en), some (.ref lb), some (.int m)]) (ws.length + 1) ⟨_, bx, k, rfl, .of (.refl H), R, TT, hb, by omega, by omega, rfl, rfl⟩ ?_
  rintro n σ' H1 ⟨f, bx1, k1, rfl, B1, R1, T1, hb1, hbl1, hf, eb, rfl⟩
  have hp1 := R1.o
  have hw1 := R1.w
  have hk1 := R1.k
  have hn1 := R1.n
  obtain ⟨f, rfl⟩ : ∃ g, n = g + 1 := ⟨n - 1, by omega⟩
  have step : boxesW ws en m (f + 1) bx1 k1 = if ws[k1]? = some en then .ok (bx1, k1 + 1) else if (bx1.length : Int) = m then .error k1
    else bindT (dueW (fun w => isName w && !decide (w ∈ bx1)) ws k1) fun r => boxesW ws en m f (bx1 ++ [r.1]) r.2 := rfl
  walk_at "zz"
  intro q1 hq1
  walk_at "zz"
  intro q2 hq2
  have h1 : (upd (upd H1 q1 (.lst (cutV (ws.map V.str) (some (k1 : Int)) (some ((k1 : Int) + 1))))) q2 (.lst [.str en])) q1 = some (.lst (cutV (ws.map V.str) (some (k1 : Int)) (some ((k1 : Int) + 1)))) := up_new hq2 upd_same
  have h2 : (upd (upd H1 q1 (.lst (cutV (ws.map V.str) (some (k1 : Int)) (some ((k1 : Int) + 1))))) q2 (.lst [.str en])) q2 = some (.lst [.str en]) := upd_same
  have S2 : Same H1 (upd (upd H1 q1 (.lst (cutV (ws.map V.str) (some (k1 : Int)) (some ((k1 : Int) + 1))))) q2 (.lst [.str en])) := (same_new hq1).trans (same_new hq2)
  generalize (upd (upd H1 q1 (.lst (cutV (ws.map V.str) (some (k1 : Int)) (some ((k1 : Int) + 1))))) q2 (.lst [.str en])) = H2 at h1 h2 S2 ⊢
  have R2 := R1.same S2
  have T2 := T1.same S2
  have hb2 := S2 _ _ hb1
  have hp2 := R2.o
  have B2 : But2 p lb H H2 := B1.trans (.of S2)
  have more : ¬ ws[k1]? = some en → tSeq (tIfS (tTest (tOp (rEqU Z.K) (tCB (rLen Z.K) (tCons (tVar 2) tNil)) (tVar 3))) (sRaiseO Z.c_NoText (sp_NoText_init Z) (fun cls d x H => E cls d H) (tCons (tFld Z.K (tVar 0) "at") tNil)) tNext)
      (tDrop (tBM Z.K "list" rAppend (tVar 2) (tCons (tMethZ Z.c_Reader "fresh_name" (sp_Reader_fresh_name Z) (WE fun cls d x H => E cls d H) (tVar 0) (tCons (tVar 2) tNil)) tNil)))
      ⟨fun σ2 H2 => ∃ m', m' < f + 1 ∧ ∃ (f : Nat) (bx' : List Str) (k' : Nat), m' = f ∧ But2 p lb H H2 ∧ RdAt Z H2 p dx lw ld ws k' hd kvs ∧ TabsZ Z H2 ∧ H2 lb = some (.lst (bx'.map V.str)) ∧ (bx'.length : Int) ≤ 20 + k' ∧ ws.length < k' + f ∧ boxesW ws en m (ws.length + 1) bx k = boxesW ws en m f bx' k' ∧ σ2 = [some (.ref p), some (.str en), some (.ref lb), some (.int m)], Q, fun _ _ => False, fun _ _ => False⟩ [some (.ref p), some (.str en), some (.ref lb), some (.int m)] H2 := by
    intro ne
    rw [if_neg ne] at step
    walk_at "zz"
    rw [List.length_map]
    refine s_ifd (fun c => ?_) (fun c => ?_)
    · refine s_raiseO ?_
      walk_at "zz"
      rw [if_pos c] at step
      exact raise_NoText (Z := Z) (W := fun cls d _ H' => E cls d H') (σ := []) fun d H' S' x => qe _ (by rw [eb, step]) d H' (B2.trans (.of S')) x
    · rw [if_neg c] at step
      walk_at "zz"
      refine cl_Reader_fresh_name ⟨p, dx, lw, ld, lb, ws, k1, hd, kvs, bx1, rfl, rfl, SqL.of hb2, T2, R2, fun r e H3 B3 R3 => ?_, fun e er => ?_⟩
      · obtain ⟨d1, d2, d3, d4⟩ := dueW_ok e
        have hb3 := B3.rd nbp hb2
        walk_at "zz"
        refine c_append hb3 (by rw [List.length_map]; exact Nat.lt_trans (show bx1.length < 2000001 by omega) (by decide)) fun H4 B4 h4 => ?_
        walk_at "zz"
        have R4 : RdAt Z H4 p dx lw ld ws r.2 hd kvs := R3.own B4 hb3 nwb
        exact ⟨f, by omega, f, bx1 ++ [r.1], r.2, rfl, (B2.trans (.left B3)).trans (.right B4), R4, (T2.but B3).but B4, by rw [h4, List.map_append]; rfl, by rw [List.length_append, List.length_singleton]; omega, by omega, by rw [eb, step, bindT_of e], rfl⟩
      · intro d H' B' x
        exact qe e (by rw [eb, step, bindT_er er]) d H' (B2.trans (.left B')) x
  by_cases ck : k1 < ws.length
  · have e1 : ws[k1]? = some ws[k1] := List.getElem?_eq_getElem ck
    have ec : cutV (ws.map V.str) (some (k1 : Int)) (some ((k1 : Int) + 1)) = [.str ws[k1]] := by
      rw [show (k1 : Int) + 1 = ((k1 + 1 : Nat) : Int) by omega, cut_nat (by omega) (by rw [List.length_map]; omega), Nat.add_sub_cancel_left]
      rw [← List.map_drop, List.drop_eq_getElem_cons ck]
      rfl
    rw [ec] at h1
    have sh : ∀ x : Str, PyData.strOk x = true → SeqAt.shaped (.list [.str x]) = true := fun x hx => (Sh.list (n := 0) (ds := [.str x]) (fun d hd => by rw [List.mem_singleton.mp hd]; exact Sh.str hx)).shaped (by decide)
    refine s_ne_d (d := .list [.str ws[k1]]) (e := .list [.str en]) (.lst (SqL.of h1) (.cons (.str _) .nil)) (.lst (SqL.of h2) (.cons (.str _) .nil)) (sh _ (R1.so _ (List.getElem_mem ck))) (sh _ hen) ?_
    rw [eqv_one]
    walk_at "zz"
    refine s_ifnn (fun c => ?_) (fun c => ?_)
    · refine s_zbody ?_
      exact more (by rw [e1]; simpa using c)
    · have ee : boxesW ws en m (ws.length + 1) bx k = .ok (bx1, k1 + 1) := by rw [eb, step, if_pos (by rw [e1, c])]
      walk_at "zz"
      refine cl_Reader_fixed_word ⟨p, dx, lw, ld, ws, k1, hd, kvs, en, rfl, rfl, T2, R2, fun r e H3 B3 R3 => ?_, fun e er => ?_⟩
      · obtain ⟨d1, d2, d3, d4⟩ := dueW_ok e
        walk_at "zz"
        rw [d3] at R3
        exact q _ ee _ (B2.trans (.left B3)) R3 (B3.rd nbp hb2)
      · unfold dueW at er
        rw [e1] at er
        simp [c] at er
  · have e1 : ws[k1]? = none := List.getElem?_eq_none_iff.mpr (by omega)
    have ec : cutV (ws.map V.str) (some (k1 : Int)) (some ((k1 : Int) + 1)) = [] := by
      rw [show (k1 : Int) + 1 = ((k1 + 1 : Nat) : Int) by omega]
      unfold cutV
      rw [List.drop_eq_nil_of_le, List.take_nil]
      rw [HT.sIx_nat, List.length_map]
      omega
    rw [ec] at h1
    refine s_ne_len h1 h2 (by simp) ?_
    refine s_zB ?_
    refine s_ift ?_
    refine s_zbody ?_
    exact more (by rw [e1]; simp)

theorem rd_Reader_how_many {Z : Adr} (T : Top Z) {a0 a1 : V} {H : Hp} {Q : VK} {E : XK} (h : q_Reader_how_many Z a0 a1 H Q E) : t_Reader_how_many Z (fun cls d _ H => E cls d H) ⟨fun _ H' => Q .non H', Q, fun _ _ => False, fun _ _ => False⟩ [some a0, some a1] H := by
  unfold t_Reader_how_many
  obtain ⟨p, dx, lw, ld, ws, k, hd, kvs, m, rfl, rfl, TT, R, q, qe⟩ := h
  have hp := R.o
  walk_at "zz"
  refine s_methL ?_
  walk_at "zz"
  refine s_zlam TT.t_Reader_how_many fun F H1 S1 T1 c1 => ?_
  refine cl_Reader_due ⟨p, dx, lw, ld, ws, k, hd, kvs, (fun w => isNum w && (decide (m ≤ numT w) && decide (numT w ≤ 12))), rfl, R.same S1, c1, fun w H2 Q2 S2 hw hz qq => ?_, fun r e H2 B2 R2 => ?_, fun e ee => (qe e ee).trans (.of S1)⟩
  · show (tAndV _ _ : TE) _ _ _
    walk_at "zz"
    refine cl_is_number_word ⟨w, rfl, hz, fun H3 S3 => ?_⟩
    walk_at "zz"
    have this : Q2 (.bl (isNum w && (decide (m ≤ numT w) && decide (numT w ≤ 12)))) H3 := qq _ S3
    cases e : isNum w with
    | false =>
      walk_at "zz"
      rw [e] at this
      exact this
    | true =>
      obtain ⟨e1, e2⟩ := num_int e
      rw [e] at this
      walk_at "zz"
      refine s_intS e1 e2 ?_
      walk_at "zz"
      cases f : decide (m ≤ numT w) with
      | false => rw [f] at this; walk_at "zz"; exact this
      | true => rw [f] at this; walk_at "zz"; exact this
  · obtain ⟨d1, d2, d3, d4⟩ := dueW_ok e
    obtain ⟨e1, e2⟩ := num_int (Bool.and_eq_true_iff.mp d2).1
    walk_at "zz"
    refine s_intS e1 e2 ?_
    exact q r e _ ((But.of S1).trans B2) R2

theorem rd_Reader_node {Z : Adr} (T : Top Z) {n : Nat} {a0 a1 a2 : V} {H : Hp} {Q : VK} {E : XK} (h : q_Reader_node Z (n + 1) a0 a1 a2 H Q E) : t_Reader_node Z n (fun cls d _ H => E cls d H) ⟨fun _ H' => Q .non H', Q, fun _ _ => False, fun _ _ => False⟩ [some a0, some a1, some a2, none, none, none, none, none] H := by
  unfold t_Reader_node
  obtain ⟨p, dx, lw, ld, lb, ws, k, hd, kvs, bx, d, f, rfl, rfl, rfl, hdf, hf, hb, nbp, hh, TT, R, q, qe⟩ := h
  have hp := R.o
  cases f with
  | zero =>
    walk_at "zz"
    refine s_ifdt (by omega) ?_
    refine s_raiseO ?_
    walk_at "zz"
    exact raise_NoText (Z := Z) (W := fun cls d _ H' => E cls d H') (σ := []) fun d' H' S x => qe k rfl d' H' (But.of S) x
  | succ f =>
  have step : nodeW ws hd bx (f + 1) k = bindT (dueW (isNodeW bx) ws k) fun r => if r.1 ∈ bx then .ok ([1, boxW r.1 bx], r.2) else if isNum r.1 = true then .ok ([0, numT r.1], r.2) else match kindW r.1 with
      | none => .ok ([], r.2)
      | some kind => bindT (ownW ws hd bx kind r.2) fun o => bindT (partsW (nodeW ws hd bx f) o.2.1.toNat o.2.2) fun p => .ok (kind :: o.1 ++ p.1, p.2) := rfl
  walk_at "zz"
  refine s_ifdf (by omega) ?_
  walk_at "zz"
  refine s_methL ?_
  walk_at "zz"
  refine s_zlam TT.t_Reader_node fun F H1 S1 T1 cc1 => ?_
  refine cl_Reader_due ⟨p, dx, lw, ld, ws, k, hd, kvs, isNodeW bx, rfl, R.same S1, cc1, fun w H2 Q2 S2 hw hz qq => ?_, fun r e H2 B2 R2 => ?_, fun e ee => (qe e (by rw [step]; exact bindT_er ee)).trans (.of S1)⟩
  · show (tCallS _ _ _ : TE) _ _ _
    walk_at "zz"
    exact cl_is_node_word ⟨w, lb, bx, rfl, rfl, (S1.trans S2).seq hb, hz, fun H3 S3 => qq _ S3⟩
  · obtain ⟨d1, d2, d3, d4⟩ := dueW_ok e
    rw [bindT_of e] at step
    have B02 := (But.of S1).trans B2
    have hb2 := B02.sqL nbp hb
    have TT2 := TT.but B02
    have hz : r.1.length ≤ 10000000 := R.sz _ (List.mem_of_getElem? d1)
    walk_at "zz"
    refine s_in_l hb2 rfl (flat_strs bx) ?_
    rw [inV_strs]
    walk_at "zz"
    refine s_ifd (fun c => ?_) (fun c => ?_)
    · rw [if_pos c] at step
      walk_at "zz"
      refine s_indexS hb2 c ?_
      walk_at "zz"
      intro l hl
      exact q ([1, boxW r.1 bx], r.2) step l _ (B02.new hl) (R2.new hl) (B02.none (ne_of_none R2.o hl).symm hl) upd_same
    rw [if_neg c] at step
    walk_at "zz"
    refine cl_is_number_word ⟨r.1, rfl, hz, fun H3 S3 => ?_⟩
    have B03 := B02.trans (.of S3)
    walk_at "zz"
    refine s_ifk (fun n => ?_) (fun n => ?_)
    · rw [if_pos n] at step
      obtain ⟨e1, e2⟩ := num_int n
      walk_at "zz"
      refine s_intS e1 e2 ?_
      walk_at "zz"
      intro l hl
      have R3 := R2.same S3
      exact q ([0, numT r.1], r.2) step l _ (B03.new hl) (R3.new hl) (B03.none (ne_of_none R3.o hl).symm hl) upd_same
    have n' : ¬ isNum r.1 = true := by rw [n]; simp
    rw [if_neg n'] at step
    walk_at "zz"
    refine cl_kind_of ⟨r.1, rfl, fun H4 S4 => ?_⟩
    have B04 := B03.trans (.of S4)
    have R4 := R2.same (S3.trans S4)
    have hp4 := R4.o
    have hb4 := B04.sqL nbp hb
    have TT4 := TT.but B04
    cases x : kindW r.1 with
    | none =>
      unfold isNodeW at d2
      rw [decide_eq_false c, n, x] at d2
      cases d2
    | some kind =>
      rw [x] at step
      have hk2 := kindW_some x
      have step : nodeW ws hd bx (f + 1) k = bindT (ownW ws hd bx kind r.2) fun o => bindT (partsW (nodeW ws hd bx f) o.2.1.toNat o.2.2) fun p => .ok (kind :: o.1 ++ p.1, p.2) := step
      rw [show optV (some kind) = .int kind from rfl]
      walk_at "zz"
      refine cl_Reader_own_numbers ⟨p, dx, lw, ld, lb, ws, r.2, hd, kvs, bx, kind, rfl, rfl, rfl, hb4, nbp, TT4, R4, fun o eo t lo H5 B5 R5 hlo5 ht5 hl5 => ?_, fun er ee => (qe er (by rw [step]; exact bindT_er ee)).trans B04⟩
      rw [bindT_of eo] at step
      have B05 := B04.trans B5
      obtain ⟨g1, g2, g3⟩ := ownW_goes eo
      dsimp only at g1 g2 g3
      have ov := ownW_many hh eo
      have ole := g3 R4.k
      have hn := R.n
      refine s_gun_t (SqT.of ht5) rfl ?_
      walk_at "zz"
      intro q1 hq1
      walk_at "zz"
      have nl1 : lo ≠ q1 := ne_of_none hl5 hq1
      refine s_add_l upd_same (up_new hq1 hl5) (by rw [List.length_map, List.length_singleton]; exact Nat.le_of_lt (Nat.lt_trans (show _ < 3000000 by omega) (by decide))) fun la hla => ?_
      have R6 := (R5.new (u := .lst [V.int kind]) hq1).new (u := .lst ([V.int kind] ++ o.1.map V.int)) hla
      have B06 := (B05.new (o := .lst [V.int kind]) hq1).new (o := .lst ([V.int kind] ++ o.1.map V.int)) hla
      have nla : la ≠ p := (ne_of_none (R5.new (u := .lst [V.int kind]) hq1).o hla).symm
      have hla0 : H la = none := (B05.new (o := .lst [V.int kind]) hq1).none nla hla
      have hla1 : (upd (upd H5 q1 (.lst [V.int kind])) la (.lst ([V.int kind] ++ o.1.map V.int))) la = some (.lst ((kind :: o.1 ++ []).map V.int)) := by rw [upd_same]; simp
      generalize (upd (upd H5 q1 (.lst [V.int kind])) la (.lst ([V.int kind] ++ o.1.map V.int))) = H6 at R6 B06 hla1 ⊢
      walk_at "zz"
      refine loop_range (fun i σ' H' => ∃ (m : List Int × Nat) (y : Option V), RdAt Z H' p dx lw ld ws m.2 hd kvs ∧ But p H H' ∧ partsW (nodeW ws hd bx f) i o.2.2 = .ok m ∧ H' la = some (.lst ((kind :: o.1 ++ m.1).map V.int)) ∧
        σ' = [some (.ref p), some (.ref lb), some (.int d), some (.str r.1), some (.int kind), some (.ref la), some (.int o.2.1), y]) ⟨([], o.2.2), _, R6, B06, rfl, hla1, rfl⟩ ?_ ?_
      · rintro i σ' H7 hi ⟨m, y, R7, B7, er, hl7, rfl⟩
        obtain ⟨m1, m2, m3⟩ := partsW_goes (fun k b z => (nodeW_goes z).1) er
        have m4 := m3 ole
        have hp7 := R7.o
        walk_at "zz"
        refine cl_Reader_node ⟨p, dx, lw, ld, lb, ws, m.2, hd, kvs, bx, d + 1, f, rfl, rfl, rfl, by omega, Nat.le_of_succ_le_succ hf, B7.sqL nbp hb, nbp, hh, TT.but B7, R7, fun b eb l' H8 B8 R8 hl0 hl8 => ?_,
          fun e ee => (show ErrT Z p H e E from qe e (by rw [step]; refine bindT_er (partsW_err (i := i + 1) ?_ hi); unfold partsW; rw [bindT_of er]; exact bindT_er ee)).trans B7⟩
        have er2 : partsW (nodeW ws hd bx f) (i + 1) o.2.2 = .ok (m.1 ++ b.1, b.2) := by unfold partsW; rw [bindT_of er, bindT_of eb]
        obtain ⟨⟨b1, b2, b3⟩, b4⟩ := nodeW_goes eb
        have hb3 := b3 m4
        have hl7' := B8.rd nla hl7
        walk_at "zz"
        refine c_extend hl7' hl8 (by rw [List.length_map, List.length_map, List.length_append, List.length_cons]; exact Nat.le_of_lt (Nat.lt_trans (show _ < 9000000 by omega) (by decide))) fun H9 B9 h9 => ?_
        walk_at "zz"
        have nlw : lw ≠ la := ne_of_none R.w hla0
        exact ⟨(m.1 ++ b.1, b.2), _, R8.own B9 hl7' nlw, (B7.trans B8).own B9 hla0, er2, by rw [h9, ← List.map_append, List.append_assoc], rfl⟩
      · rintro σ' H7 ⟨m, y, R7, B7, er, hl7, rfl⟩
        walk_at "zz"
        exact q (kind :: o.1 ++ m.1, m.2) (by rw [step, bindT_of er]) la H7 B7 R7 hla0 hl7

theorem rd_Reader_own_numbers {Z : Adr} (T : Top Z) {a0 a1 a2 : V} {H : Hp} {Q : VK} {E : XK} (h : q_Reader_own_numbers Z a0 a1 a2 H Q E) : t_Reader_own_numbers Z (fun cls d _ H => E cls d H) ⟨fun _ H' => Q .non H', Q, fun _ _ => False, fun _ _ => False⟩ [some a0, some a1, some a2, none, none] H := by
  unfold t_Reader_own_numbers
  obtain ⟨p, dx, lw, ld, lb, ws, k, hd, kvs, bx, kind, rfl, rfl, rfl, hb, nbp, TT, R, q, qe⟩ := h
  have hp := R.o
  have fin : ∀ {H1 : Hp} {ns : List Int} {m : Int} {j : Nat}, But p H H1 → RdAt Z H1 p dx lw ld ws j hd kvs → ownW ws hd bx kind k = .ok (ns, m, j) → ∀ lo, H1 lo = none → ∀ t, upd H1 lo (.lst (ns.map V.int)) t = none → Q (.ref t) (upd (upd H1 lo (.lst (ns.map V.int))) t (.tup [.ref lo, .int m])) := by
    intro H1 ns m j B R1 eo lo hlo t ht
    have nlp : lo ≠ p := (ne_of_none R1.o hlo).symm
    exact q _ eo t lo _ ((B.new hlo).new ht) ((R1.new hlo).new ht) (B.none nlp hlo) upd_same (up_new ht upd_same)
  walk_at "zz"
  refine s_ifd (fun c0 => ?_) (fun c0 => ?_)
  · skip
    walk_at "zz"
    refine s_methL ?_
    walk_at "zz"
    refine s_zlam TT.t_Reader_own_numbers fun F H1 S1 T1 c1 => ?_
    refine cl_Reader_due ⟨p, dx, lw, ld, ws, k, hd, kvs, (fun w => decide (w ∈ bx)), rfl, R.same S1, c1, fun w H2 Q2 S2 hw hz qq => ?_, fun r e H2 B2 R2 => ?_, fun e ee => (qe e (by unfold ownW; rw [if_pos c0]; exact bindT_er ee)).trans (.of S1)⟩
    · show (tOp _ _ _ : TE) _ _ _
      walk_at "zz"
      refine s_in_l ((S1.trans S2).seq hb) rfl (flat_strs bx) ?_
      rw [inV_strs]
      exact qq _ (Same.refl _)
    · obtain ⟨d1, d2, d3, d4⟩ := dueW_ok e
      have B02 := (But.of S1).trans B2
      walk_at "zz"
      refine s_indexS (B02.sqL nbp hb) (of_decide_eq_true d2) ?_
      walk_at "zz"
      intro lo hlo
      walk_at "zz"
      intro t ht
      exact fin (ns := [boxW r.1 bx]) B02 R2 (by unfold ownW; rw [if_pos c0]; exact bindT_of e) lo hlo t ht
  walk_at "zz"
  refine s_ifd (fun c1 => ?_) (fun c1 => ?_)
  · skip
    walk_at "zz"
    refine cl_Reader_how_many ⟨p, dx, lw, ld, ws, k, hd, kvs, 1, rfl, rfl, TT, R, fun r e H1 B1 R1 => ?_, fun e ee => qe e (by unfold ownW; rw [if_neg c0, if_pos c1]; exact bindT_er ee)⟩
    walk_at "zz"
    intro lo hlo
    walk_at "zz"
    intro t ht
    exact fin (ns := [numT r.1]) B1 R1 (by unfold ownW; rw [if_neg c0, if_pos c1]; exact bindT_of e) lo hlo t ht
  walk_at "zz"
  refine s_ifd (fun c2 => ?_) (fun c2 => ?_)
  · skip
    walk_at "zz"
    refine cl_Reader_how_many ⟨p, dx, lw, ld, ws, k, hd, kvs, 2, rfl, rfl, TT, R, fun r e H1 B1 R1 => ?_, fun e ee => qe e (by unfold ownW; rw [if_neg c0, if_neg c1, if_pos c2]; exact bindT_er ee)⟩
    walk_at "zz"
    intro lo hlo
    walk_at "zz"
    intro t ht
    exact fin (ns := [numT r.1]) B1 R1 (by unfold ownW; rw [if_neg c0, if_neg c1, if_pos c2]; exact bindT_of e) lo hlo t ht
  walk_at "zz"
  refine s_ifd (fun c3 => ?_) (fun c3 => ?_)
  · skip
    walk_at "zz"
    refine s_methL ?_
    walk_at "zz"
    refine s_zlam TT.t_Reader_own_numbers fun F H1 S1 T1 cc1 => ?_
    refine cl_Reader_due ⟨p, dx, lw, ld, ws, k, hd, kvs, (fun w => isName w && (hdOf hd w).isSome), rfl, R.same S1, cc1, fun w H2 Q2 S2 hw hz qq => ?_, fun r e H2 B2 R2 => ?_, fun e ee => (qe e (by unfold ownW; rw [if_neg c0, if_neg c1, if_neg c2, if_pos c3]; exact bindT_er ee)).trans (.of S1)⟩
    · show (tAndV _ _ : TE) _ _ _
      walk_at "zz"
      refine cl_is_name ⟨w, rfl, hz, fun H3 S3 => ?_⟩
      walk_at "zz"
      have this : Q2 (.bl (isName w && (hdOf hd w).isSome)) H3 := qq _ S3
      have R3 := R.same ((S1.trans S2).trans S3)
      have hp3 := R3.o
      cases e : isName w with
      | false =>
        walk_at "zz"
        rw [e] at this
        exact this
      | true =>
        walk_at "zz"
        refine s_zDIn_s (.inl R3.d) ?_
        rw [e] at this
        rcases R3.h.val (w := w) with ⟨v1, v2⟩ | ⟨m, t, v1, v2, v3⟩
        · rw [v1] at this
          rw [show valV kvs (Sum.inr w : Key) = none from v2]
          exact this
        · rw [v1] at this
          rw [show valV kvs (Sum.inr w : Key) = some (.ref t) from v2]
          exact this
    · obtain ⟨d1, d2, d3, d4⟩ := dueW_ok e
      have B02 := (But.of S1).trans B2
      have hp2 := R2.o
      have d5 := (Bool.and_eq_true_iff.mp d2).2
      rcases R2.h.val (w := r.1) with ⟨v1, v2⟩ | ⟨m, t0, v1, v2, v3⟩
      · rw [v1] at d5; cases d5
      · walk_at "zz"
        refine s_zDGet_s (.inl R2.d) v2 ?_
        walk_at "zz"
        intro lo hlo
        walk_at "zz"
        intro t ht
        exact fin (ns := [m.1]) B02 R2 (by unfold ownW; rw [if_neg c0, if_neg c1, if_neg c2, if_pos c3, bindT_of e, v1]; rfl) lo hlo t ht
  walk_at "zz"
  refine s_ifd (fun c4 => ?_) (fun c4 => ?_)
  · skip
    walk_at "zz"
    intro lo hlo
    walk_at "zz"
    intro t ht
    exact fin (ns := []) (.refl p H) R (by unfold ownW; rw [if_neg c0, if_neg c1, if_neg c2, if_neg c3, if_pos c4]) lo hlo t ht
  walk_at "zz"
  intro lo hlo
  walk_at "zz"
  refine cl_parts_of ⟨kind, rfl, fun H1 S1 => ?_⟩
  walk_at "zz"
  intro t ht
  have S01 := (same_new (o := .lst []) hlo).trans S1
  refine q ([], manyP kind, k) (by unfold ownW; rw [if_neg c0, if_neg c1, if_neg c2, if_neg c3, if_neg c4]) t lo _ ((But.of S01).new ht) ((R.same S01).new ht) hlo upd_same (up_new ht (S1 _ _ upd_same))

theorem rd_is_node_word {Z : Adr} (T : Top Z) {a0 a1 : V} {H : Hp} {Q : VK} {E : XK} (h : q_is_node_word Z a0 a1 H Q E) : t_is_node_word Z (fun cls d _ H => E cls d H) ⟨fun _ H' => Q .non H', Q, fun _ _ => False, fun _ _ => False⟩ [some a0, some a1] H := by
  unfold t_is_node_word
  obtain ⟨w, lb, bx, rfl, rfl, hb, hw, q⟩ := h
  walk_at "zz"
  refine s_in_l hb rfl (flat_strs bx) ?_
  walk_at "zz"
  rw [inV_strs]
  refine s_ifd (fun c => ?_) (fun c => ?_)
  · have e : isNodeW bx w = true := by unfold isNodeW; rw [decide_eq_true c]; rfl
    have := q _ (Same.refl H)
    rwa [e] at this
  · walk_at "zz"
    refine cl_is_number_word ⟨w, rfl, hw, fun H1 S1 => ?_⟩
    walk_at "zz"
    refine s_ifk (fun n => ?_) (fun n => ?_)
    · have e : isNodeW bx w = true := by unfold isNodeW; rw [n]; simp
      have := q _ S1
      rwa [e] at this
    · walk_at "zz"
      refine cl_kind_of ⟨w, rfl, fun H2 S2 => ?_⟩
      have e : isNodeW bx w = (kindW w).isSome := by unfold isNodeW; rw [n, decide_eq_false c]; rfl
      have := q _ (S1.trans S2)
      rw [e] at this
      cases e2 : kindW w with
      | some i =>
        show rNotU (.int i) .non _ _
        walk_at "zz"
        rwa [e2] at this
      | none =>
        show rNotU .non .non _ _
        walk_at "zz"
        rwa [e2] at this

theorem rd_read_text {Z : Adr} (T : Top Z) {a0 : V} {H : Hp} {Q : VK} {E : XK} (h : q_read_text Z a0 H Q E) : t_read_text Z (fun cls d _ H => E cls d H) ⟨fun _ H' => Q .non H', Q, fun _ _ => False, fun _ _ => False⟩ [some a0, none, none, none, none, none, none, none, none, none] H := by
  unfold t_read_text
  rcases h with ⟨n, q⟩ | h
  · walk_at "zz"
    exact cl_words_of (.inl ⟨n, fun d' H' S x => q d' H' S x⟩)
  obtain ⟨t, rfl, ht, hts, TT, q, qe⟩ := h
  obtain ⟨wn, wa⟩ := wordsT_ok ht hts
  walk_at "zz"
  refine cl_words_of (.inr ⟨t, rfl, by omega, fun lw H1 S1 hlw hw1 => ?_⟩)
  generalize wordsT t = ws at hw1 wn wa q qe
  walk_at "zz"
  intro pr dx npr ndx ndp
  walk_at "zz"
  have nwp : lw ≠ pr := ne_of_none hw1 npr
  have nwd : lw ≠ dx := ne_of_none hw1 ndx
  have hw2 : (upd (upd H1 dx (.own pr)) pr (.ins Z.c_Reader dx [])) lw = some (.lst (ws.map V.str)) := (upd_ne nwp).trans ((upd_ne nwd).trans hw1)
  refine cl_Reader_init ⟨pr, dx, lw, ws, rfl, rfl, upd_same, hw2, wn, wa, fun ld kvs H3 B3 R3 hld => ?_⟩
  have hpr : H pr = none := S1.free npr
  have npr2 : upd H1 dx (.own pr) pr = none := (upd_ne ndp.symm).trans npr
  have S3 : Same H H3 := same_own ((S1.trans (same_new ndx)).trans (same_new npr2)) B3 hpr
  have TT3 := TT.same S3
  refine ⟨rfl, ?_⟩
  walk_at "zz"
  intro ln hln
  walk_at "zz"
  intro lh hlh
  walk_at "zz"
  intro lb hlb
  walk_at "zz"
  have R4 := ((R3.new (u := .lst []) hln).new (u := .lst []) hlh).new (u := .lst []) hlb
  have S4 : Same H (upd (upd (upd H3 ln (.lst [])) lh (.lst [])) lb (.lst [])) := ((S3.trans (same_new hln)).trans (same_new hlh)).trans (same_new hlb)
  have n1 : ln ≠ lh := ne_of_none upd_same hlh
  have n2 : lh ≠ lb := ne_of_none upd_same hlb
  have n3 : ln ≠ lb := ne_of_none ((upd_ne n1).trans upd_same) hlb
  have e1 : (upd (upd (upd H3 ln (.lst [])) lh (.lst [])) lb (.lst [])) ln = some (.lst []) := (upd_ne n3).trans ((upd_ne n1).trans upd_same)
  have e2 : (upd (upd (upd H3 ln (.lst [])) lh (.lst [])) lb (.lst [])) lh = some (.lst []) := (upd_ne n2).trans upd_same
  have e3 : (upd (upd (upd H3 ln (.lst [])) lh (.lst [])) lb (.lst [])) lb = some (.lst []) := upd_same
  have f1 : H ln = none := S3.free hln
  have f2 : H lh = none := (S3.trans (same_new hln)).free hlh
  have f3 : H lb = none := ((S3.trans (same_new hln)).trans (same_new hlh)).free hlb
  have w1 : lw ≠ ln := ne_of_none R3.w hln
  have w2 : lw ≠ lh := ne_of_none (R3.new (u := .lst []) hln).w hlh
  have w3 : lw ≠ lb := ne_of_none ((R3.new (u := .lst []) hln).new (u := .lst []) hlh).w hlb
  have p1 : pr ≠ ln := ne_of_none R3.o hln
  have p2 : pr ≠ lh := ne_of_none (R3.new (u := .lst []) hln).o hlh
  have p3 : pr ≠ lb := ne_of_none ((R3.new (u := .lst []) hln).new (u := .lst []) hlh).o hlb
  generalize (upd (upd (upd H3 ln (.lst [])) lh (.lst [])) lb (.lst [])) = H4 at R4 S4 e1 e2 e3 ⊢
  have hmany := headsW_many wn
  have er : readW ws = bindT (loopW ws (headsW ws) 18 ([], [], [], 0)) fun p => .ok (p.1, (p.1.length : Int) :: p.2.1 ++ p.2.2.1) := rfl
  refine s_while (fun n σ' H' => ∃ (f : Nat) (P : Prg) (vs : List V) (x5 x6 x7 x8 x9 : Option V), n = f ∧ f + P.1.length = 18 ∧ P.1.length ≤ 16 ∧ Same H H' ∧ RdAt Z H' pr dx lw ld ws P.2.2.2 (headsW ws) kvs ∧ H' ln = some (.lst vs) ∧ NamesAt H' P.1 vs ∧ H' lh = some (.lst (P.2.1.map V.int)) ∧ H' lb = some (.lst (P.2.2.1.map V.int)) ∧
    P.2.1.length = 2 * P.1.length ∧ P.2.2.1.length ≤ 2 * P.2.2.2 ∧ loopW ws (headsW ws) 18 ([], [], [], 0) = loopW ws (headsW ws) f P ∧ σ' = [some (.str t), some (.ref pr), some (.ref ln), some (.ref lh), some (.ref lb), x5, x6, x7, x8, x9]) 18 ⟨18, ([], [], [], 0), [], _, _, _, _, _, rfl, rfl, by decide, S4, R4, e1, rfl, e2, e3, rfl, Nat.zero_le _, rfl, rfl⟩ ?_
  rintro n σ' H5 ⟨f, P, vs, x5, x6, x7, x8, x9, rfl, hf, hle, S5, R5, hn5, hN5, hh5, hb5, l1, l2, eL, rfl⟩
  obtain ⟨f, rfl⟩ : ∃ g, n = g + 1 := ⟨n - 1, by omega⟩
  have step : loopW ws (headsW ws) (f + 1) P = if P.1 = [] ∨ P.2.2.2 < ws.length then bindT (onceW ws (headsW ws) P) (loopW ws (headsW ws) f) else .ok P := rfl
  have lv := hN5.len
  refine or_by (decide (P.1 = [])) (decide (P.2.2.2 < ws.length)) (fun k => ?_) (fun S k => ?_) fun H6 S6 => ?_
  · walk_at "zz"
    intro l5 hl5
    have hn6 := up_new (u := .lst []) hl5 hn5
    have k5 := k _ (same_new (o := .lst []) hl5)
    by_cases c : P.1 = []
    · have cv : vs = [] := List.eq_nil_of_length_eq_zero (by rw [lv, c]; rfl)
      rw [cv] at hn6
      rw [decide_eq_true c] at k5
      refine s_eq_d (d := .list []) (e := .list []) (.lst (SqL.of hn6) .nil) (.lst (SqL.of upd_same) .nil) (by decide) (by decide) ?_
      walk_at "zz"
      exact k5
    · have cv : vs.length ≠ 0 := by rw [lv]; exact fun z => c (List.eq_nil_of_length_eq_zero z)
      rw [decide_eq_false c] at k5
      refine s_eq_len hn6 upd_same (by simpa using cv) ?_
      walk_at "zz"
      exact k5
  · have R6 := R5.same S
    have hp6 := R6.o
    walk_at "zz"
    refine cl_Reader_is_left ⟨pr, dx, lw, ld, ws, P.2.2.2, headsW ws, kvs, rfl, R6, fun H7 S7 => ?_⟩
    walk_at "zz"
    exact k _ S7
  · have S06 := S5.trans S6
    have R6 := R5.same S6
    have TT6 := TT.same S06
    have hp6 := R6.o
    have hn6 := S6 _ _ hn5
    have hN6 := hN5.mono (TupS.of S6)
    have hh6 := S6 _ _ hh5
    have hb6 := S6 _ _ hb5
    refine s_ifk (fun c => ?_) (fun c => ?_)
    · have c' : P.1 = [] ∨ P.2.2.2 < ws.length := by simpa using c
      rw [if_pos c'] at step
      walk_at "zz"
      have bad : ∀ {e : Nat}, onceW ws (headsW ws) P = .error e → readW ws = .error e := fun {e} z => by rw [er, eL, step, bindT_er z]; rfl
      refine s_ifd (fun d => ?_) (fun d => ?_)
      · refine s_raiseO ?_
        walk_at "zz"
        have ee : onceW ws (headsW ws) P = .error P.2.2.2 := by unfold onceW; rw [if_pos (by omega)]
        exact raise_NoText (Z := Z) (W := fun cls d _ H' => E cls d H') (σ := []) fun d' H' S' x => qe _ (bad ee) d' H' (S06.trans S') x
      have o1 : onceW ws (headsW ws) P = bindT (dueW (fun w => decide (w = "fun")) ws P.2.2.2) fun r1 => bindT (dueW (fun w => isName w && !decide (w ∈ P.1.map (·.1))) ws r1.2) fun r2 =>
          bindT (boxesW ws "with" (if P.1 = [] then 0 else 4) (ws.length + 1) [] r2.2) fun r3 => bindT (boxesW ws "is" 12 (ws.length + 1) r3.1 r3.2) fun r4 =>
          bindT (nodeW ws (headsW ws) r4.1 10 r4.2) fun r5 => .ok (P.1 ++ [(r2.1, r4.1)], P.2.1 ++ [(r3.1.length : Int), (r4.1.length : Int)], P.2.2.1 ++ r5.1, r5.2) := by
        unfold onceW
        rw [if_neg (by omega)]
      walk_at "zz"
      refine cl_Reader_fixed_word ⟨pr, dx, lw, ld, ws, P.2.2.2, headsW ws, kvs, "fun", rfl, rfl, TT6, R6, fun r1 e1 H7 B7 R7 => ?_, fun e ee d' H' B' x => qe e (bad (by rw [o1]; exact bindT_er ee)) d' H' (same_own S06 B' hpr) x⟩
      rw [bindT_of e1] at o1
      have S07 := same_own S06 B7 hpr
      have TT7 := TT.same S07
      have hp7 := R7.o
      have hn7 := B7.rd p1.symm hn6
      have hN7 := hN6.mono (R6.tups B7)
      have hh7 := B7.rd p2.symm hh6
      have hb7 := B7.rd p3.symm hb6
      walk_at "zz"
      refine lc_lst vs (fun D i H' => Same H7 H' ∧ H7 D = none ∧ H' D = some (.lst (((P.1.take i).map (·.1)).map V.str))) (fun D hD => ⟨same_new hD, hD, upd_same⟩) (fun D i H' hD hi ⟨S, _, _⟩ => SqL.of (S _ _ hn7)) ?_ ?_
      · rintro D i v H' hD hv ⟨S, hD7, hd⟩
        obtain ⟨w, bx, t1, tb1, e1', rfl, ht1, htb1⟩ := hN7.get hv
        have ht1' := S _ _ ht1
        walk_at "zz"
        refine s_ixTN (m := 0) (SqT.of ht1') rfl ?_
        refine c_acc hd ?_ fun H8 B8 h8 => ?_
        · rw [List.length_map, List.length_map, List.length_take]
          exact Nat.lt_of_le_of_lt (Nat.min_le_right _ _) (Nat.lt_of_le_of_lt hle (by decide))
        · refine ⟨same_own S B8 hD7, hD7, ?_⟩
          rw [h8, List.take_add_one, e1']
          simp
      rintro D H8 hD ⟨S8, hD7, hd⟩
      rw [lv, List.take_length] at hd
      have S08 := S07.trans S8
      have R8 := R7.same S8
      have TT8 := TT.same S08
      have hp8 := R8.o
      walk_at "zz"
      refine cl_Reader_fresh_name ⟨pr, dx, lw, ld, D, ws, r1.2, headsW ws, kvs, P.1.map (·.1), rfl, rfl, SqL.of hd, TT8, R8, fun r2 e2 H9 B9 R9 => ?_, fun e ee d' H' B' x => qe e (bad (by rw [o1]; exact bindT_er ee)) d' H' (same_own S08 B' hpr) x⟩
      rw [bindT_of e2] at o1
      have S09 := same_own S08 B9 hpr
      have TT9 := TT.same S09
      have hn9 := B9.rd p1.symm (S8 _ _ hn7)
      have hN9 := (hN7.mono (TupS.of S8)).mono (R8.tups B9)
      have hh9 := B9.rd p2.symm (S8 _ _ hh7)
      have hb9 := B9.rd p3.symm (S8 _ _ hb7)
      have hp9 := R9.o
      walk_at "zz"
      intro lx hlx
      walk_at "zz"
      intro ly hly
      have hn10 := up_new (u := .lst []) hly (up_new (u := .lst []) hlx hn9)
      have hh10 := up_new (u := .lst []) hly (up_new (u := .lst []) hlx hh9)
      have hb10 := up_new (u := .lst []) hly (up_new (u := .lst []) hlx hb9)
      have hx10 : upd (upd H9 lx (.lst [])) ly (.lst []) lx = some (.lst (([] : List Str).map V.str)) := up_new hly upd_same
      have hy10 : upd (upd H9 lx (.lst [])) ly (.lst []) ly = some (.lst []) := upd_same
      have S9x := (same_new (o := .lst []) hlx).trans (same_new (o := .lst []) hly)
      have S010 := S09.trans S9x
      have hx0 : H lx = none := S09.free hlx
      have R10 := R9.same S9x
      have hN10 := hN9.mono (TupS.of S9x)
      have q1 : ln ≠ lx := ne_of_none hn9 hlx
      have q2 : lh ≠ lx := ne_of_none hh9 hlx
      have q3 : lb ≠ lx := ne_of_none hb9 hlx
      have q4 : lw ≠ lx := ne_of_none R9.w hlx
      generalize upd (upd H9 lx (.lst [])) ly (.lst []) = H10 at hn10 hh10 hb10 hx10 hy10 S9x S010 R10 hN10 ⊢
      have TT10 := TT.same S010
      have hp10 := R10.o
      have ne : ∀ {QQ : VK}, QQ (.bl (!decide (P.1 = []))) H10 → rNeU Z.K (.ref ln) (.ref ly) H10 QQ := by
        intro QQ hq
        by_cases c : P.1 = []
        · have cv : vs = [] := List.eq_nil_of_length_eq_zero (by rw [lv, c]; rfl)
          rw [cv] at hn10
          rw [decide_eq_true c] at hq
          exact s_ne_d (d := .list []) (e := .list []) (.lst (SqL.of hn10) .nil) (.lst (SqL.of hy10) .nil) (by decide) (by decide) hq
        · have cv : vs.length ≠ 0 := by rw [lv]; exact fun z => c (List.eq_nil_of_length_eq_zero z)
          rw [decide_eq_false c] at hq
          exact s_ne_len hn10 hy10 (by simpa using cv) hq
      refine ne ?_
      walk_at "zz"
      have em : (4 * (if (!decide (P.1 = [])) = true then 1 else 0) : Int) = if P.1 = [] then 0 else 4 := by by_cases c : P.1 = [] <;> simp [c]
      refine cl_Reader_boxes_to ⟨pr, dx, lw, ld, lx, ws, r2.2, headsW ws, kvs, "with", [], (if P.1 = [] then 0 else 4), rfl, rfl, rfl, by rw [em], by decide +kernel, hx10, q4, by decide, by split <;> decide, TT10, R10, fun r3 e3 H11 B11 R11 hx11 => ?_, fun e ee d' H' B' x => qe e (bad (by rw [o1]; exact bindT_er ee)) d' H' (same_own2 S010 B' hpr hx0) x⟩
      rw [bindT_of e3] at o1
      have S011 := same_own2 S010 B11 hpr hx0
      have TT11 := TT.same S011
      have hp11 := R11.o
      have hn11 := B11.rd p1.symm q1 hn10
      have hh11 := B11.rd p2.symm q2 hh10
      have hb11 := B11.rd p3.symm q3 hb10
      have hN11 := hN10.mono (But2.tups B11 R10.o (by simp) hx10 (by simp))
      walk_at "zz"
      have hr3 : (r3.1.length : Int) ≤ 4 := by
        have := boxesW_len e3 (by show ((0 : Nat) : Int) ≤ _; split <;> decide)
        by_cases c : P.1 = []
        · rw [if_pos c] at this; omega
        · rw [if_neg c] at this; exact this
      refine cl_Reader_boxes_to ⟨pr, dx, lw, ld, lx, ws, r3.2, headsW ws, kvs, "is", r3.1, 12, rfl, rfl, rfl, rfl, by decide +kernel, hx11, q4, by omega, by decide, TT11, R11, fun r4 e4 H12 B12 R12 hx12 => ?_, fun e ee d' H' B' x => qe e (bad (by rw [o1]; exact bindT_er ee)) d' H' (same_own2 S011 B' hpr hx0) x⟩
      rw [bindT_of e4] at o1
      have hr4 := boxesW_len e4 (by omega)
      have S012 := same_own2 S011 B12 hpr hx0
      have hn12 := B12.rd p1.symm q1 hn11
      have hh12 := B12.rd p2.symm q2 hh11
      have hb12 := B12.rd p3.symm q3 hb11
      have hN12 := hN11.mono (But2.tups B12 R11.o (by simp) hx11 (by simp))
      walk_at "zz"
      intro lz hlz
      walk_at "zz"
      have hh12' := up_new (u := .lst [V.int (r3.1.map V.str).length, V.int (r4.1.map V.str).length]) hlz hh12
      refine c_extend hh12' upd_same (by rw [List.length_map]; exact Nat.le_of_lt (Nat.lt_of_le_of_lt (show _ ≤ 100 by simp only [List.length_cons, List.length_nil]; omega) (by decide))) fun H13 B13 hh13 => ?_
      have S013 := same_own (S012.trans (same_new (o := .lst [V.int (r3.1.map V.str).length, V.int (r4.1.map V.str).length]) hlz)) B13 f2
      have hn13 := B13.rd n1 (up_new hlz hn12)
      have hb13 := B13.rd n2.symm (up_new hlz hb12)
      have hx13 := B13.rd q2.symm (up_new hlz hx12)
      have R13 := (R12.new hlz).own B13 hh12' w2
      have hN13 := (hN12.mono (TupS.new hlz)).mono (TupS.butL B13 hh12')
      have hp13 := R13.o
      have q5 : lx ≠ pr := ne_of hx13 hp13 (by simp)
      walk_at "zz"
      refine cl_Reader_node ⟨pr, dx, lw, ld, lx, ws, r4.2, headsW ws, kvs, r4.1, 1, 10, rfl, rfl, rfl, by decide, by decide, SqL.of hx13, q5, hmany, TT.same S013, R13, fun r5 e5 lq H14 B14 R14 hlq hq14 => ?_, fun e ee d' H' B' x => qe e (bad (by rw [o1]; exact bindT_er ee)) d' H' (same_own S013 B' hpr) x⟩
      rw [bindT_of e5] at o1
      obtain ⟨⟨g1, g2, g3⟩, g4⟩ := nodeW_goes e5
      have k13 := R13.k
      have k14 := R14.k
      have k5' := R5.k
      have S014 := same_own S013 B14 hpr
      have hn14 := B14.rd p1.symm hn13
      have hh14 := B14.rd p2.symm hh13
      have hb14 := B14.rd p3.symm hb13
      have hx14 := B14.rd q5 hx13
      have hN14 := hN13.mono (R13.tups B14)
      walk_at "zz"
      refine c_extend hb14 hq14 (by rw [List.length_map, List.length_map]; exact Nat.le_of_lt (Nat.lt_of_le_of_lt (show _ ≤ 5000000 by omega) (by decide))) fun H15 B15 hb15 => ?_
      have S015 := same_own S014 B15 f3
      have hn15 := B15.rd n3 hn14
      have hh15 := B15.rd n2 hh14
      have hx15 := B15.rd q3.symm hx14
      have R15 := R14.own B15 hb14 w3
      have hN15 := hN14.mono (TupS.butL B15 hb14)
      walk_at "zz"
      intro tb htb
      walk_at "zz"
      intro t2 ht2
      walk_at "zz"
      have hn16 := up_new (u := .tup [V.str r2.1, .ref tb]) ht2 (up_new (u := .tup (r4.1.map V.str)) htb hn15)
      refine c_append hn16 (by rw [lv]; exact Nat.lt_of_le_of_lt hle (by decide)) fun H17 B17 hn17 => ?_
      have T17 := TupS.butL B17 hn16
      have hN17 := ((hN15.mono (TupS.new htb)).mono (TupS.new ht2)).mono T17
      have S017 := same_own ((S015.trans (same_new (o := .tup (r4.1.map V.str)) htb)).trans (same_new (o := .tup [V.str r2.1, .ref tb]) ht2)) B17 f1
      have R17 := ((R15.new (u := .tup (r4.1.map V.str)) htb).new (u := .tup [V.str r2.1, .ref tb]) ht2).own B17 hn16 w1
      walk_at "zz"
      obtain ⟨_, _, dd1, _⟩ := dueW_ok e1
      obtain ⟨_, _, dd2, _⟩ := dueW_ok e2
      have b3 := boxesW_ge e3
      have b4 := boxesW_ge e4
      have hh17 := B17.rd n1.symm (up_new ht2 (up_new htb hh15))
      have hb17 := B17.rd n3.symm (up_new ht2 (up_new htb hb15))
      refine ⟨f, by omega, f, (P.1 ++ [(r2.1, r4.1)], P.2.1 ++ [(r3.1.length : Int), (r4.1.length : Int)], P.2.2.1 ++ r5.1, r5.2), _, _, _, _, _, _, rfl, ?_, ?_, S017, R17, hn17, hN17.app (T17 _ _ upd_same) (T17 _ _ (up_new ht2 upd_same)), ?_, ?_, ?_, ?_, by rw [eL, step, bindT_of o1], rfl⟩
      · show f + (P.1 ++ [(r2.1, r4.1)]).length = 18
        rw [List.length_append, List.length_singleton]; omega
      · show (P.1 ++ [(r2.1, r4.1)]).length ≤ 16
        rw [List.length_append, List.length_singleton]; omega
      · rw [hh17]; simp
      · rw [hb17, List.map_append]
      · show (P.2.1 ++ [_, _]).length = 2 * (P.1 ++ [_]).length
        simp only [List.length_append, List.length_cons, List.length_nil]; omega
      · show (P.2.2.1 ++ r5.1).length ≤ 2 * r5.2
        rw [List.length_append]; omega
    · have c' : ¬ (P.1 = [] ∨ P.2.2.2 < ws.length) := by simpa using c
      rw [if_neg c'] at step
      have er2 : readW ws = .ok (P.1, (P.1.length : Int) :: P.2.1 ++ P.2.2.1) := by rw [er, eL, step]; rfl
      have k6 := R6.k
      walk_at "zz"
      intro tn htn
      walk_at "zz"
      intro l1 hl1
      walk_at "zz"
      have hh7 := up_new (u := .lst [V.int (vs.length : Nat)]) hl1 (up_new (u := .tup vs) htn hh6)
      have hb7 := up_new (u := .lst [V.int (vs.length : Nat)]) hl1 (up_new (u := .tup vs) htn hb6)
      refine s_add_l upd_same hh7 (by rw [List.length_map]; exact Nat.le_of_lt (Nat.lt_of_le_of_lt (show _ ≤ 100 by simp only [List.length_cons, List.length_nil]; omega) (by decide))) fun l2 hl2 => ?_
      walk_at "zz"
      refine s_add_l upd_same (up_new hl2 hb7) (by simp only [List.length_append, List.length_map, List.length_cons, List.length_nil]; exact Nat.le_of_lt (Nat.lt_of_le_of_lt (show _ ≤ 3000000 by omega) (by decide))) fun l3 hl3 => ?_
      walk_at "zz"
      intro u hu
      have S7 := (((S06.trans (same_new (o := .tup vs) htn)).trans (same_new (o := .lst [V.int (vs.length : Nat)]) hl1)).trans (same_new (o := .lst ([V.int (vs.length : Nat)] ++ P.2.1.map V.int)) hl2))
      refine q _ er2 u tn l3 vs _ ((S7.trans (same_new hl3)).trans (same_new hu)) (S7.free hl3) upd_same (up_new hu (up_new hl3 (up_new hl2 (up_new hl1 upd_same)))) ?_ ?_
      · exact ((((hN6.mono (TupS.new htn)).mono (TupS.new hl1)).mono (TupS.new hl2)).mono (TupS.new hl3)).mono (TupS.new hu)
      · refine (up_new hu upd_same).trans ?_
        simp [lv]

theorem rd_Lpen {Z : Adr} (T : Top Z) {a0 a1 : V} {H : Hp} {Q : VK} {E : XK} (h : q_Lpen Z a0 a1 H Q E) : t_Lpen Z (fun cls d _ H => E cls d H) ⟨fun _ H' => Q .non H', Q, fun _ _ => False, fun _ _ => False⟩ [some a0, some a1, none] H := by
  unfold t_Lpen
  obtain ⟨sa, ns, k, rfl, rfl, hk, hS, q⟩ := h
  have hsq := hS.sq
  have fin : ∀ {p : Addr} {a b : Int}, H p = none → 0 ≤ a → 0 ≤ b → Q (.ref p) (upd H p (.lst [.int a, .int b, .int 0])) := fun hp ha hb => q _ _ (same_new hp) hp ⟨_, _, _, ha, hb, ⟨Int.le_refl _, Int.le_refl _⟩, upd_same⟩
  walk_at "zz"
  refine s_cut (fun σ' H' => H' = H ∧ ∃ c : Int, σ' = [some (.ref sa), some (.int k), some (.int c)]) ?_ ?_
  · walk_at "zz"
    rw [List.length_map]
    refine s_ifd (fun c => ?_) (fun c => ?_)
    · walk_at "zz"
      obtain ⟨w, hw, ew⟩ := at_ints ns (i := k) hk c
      refine s_ix_l hsq ew ?_
      exact ⟨rfl, _, rfl⟩
    · walk_at "zz"
      rw [List.length_map]
      refine s_ifd (fun c => ?_) (fun c => ?_)
      · walk_at "zz"
        rw [List.length_map]
        refine s_modp c ?_
        walk_at "zz"
        obtain ⟨w, hw, ew⟩ := at_ints ns (i := k % ns.length) (Int.emod_nonneg _ (by omega)) (Int.emod_lt_of_pos _ c)
        refine s_ix_l hsq ew ?_
        walk_at "zz"
        exact ⟨rfl, _, rfl⟩
      · walk_at "zz"
        exact ⟨rfl, _, rfl⟩
  rintro σ' H' ⟨rfl, c, rfl⟩
  walk_at "zz"
  refine s_ifd (fun d => ?_) (fun d => ?_)
  · walk_at "zz"
    intro p hp
    exact fin hp (by omega) (Int.emod_nonneg _ (by decide))
  · walk_at "zz"
    intro p hp
    exact fin hp (Int.le_refl _) (Int.emod_nonneg _ (by decide))

theorem rd_Ldraw {Z : Adr} (T : Top Z) {a0 a1 : V} {H : Hp} {Q : VK} {E : XK} (h : q_Ldraw Z a0 a1 H Q E) : t_Ldraw Z (fun cls d _ H => E cls d H) ⟨fun _ H' => Q .non H', Q, fun _ _ => False, fun _ _ => False⟩ [some a0, some a1, none, none] H := by
  unfold t_Ldraw
  obtain ⟨p, m, n, rfl, rfl, hm, hm2, hn, ⟨x, y, z, hx, hy, ⟨hz, hzn⟩, hp⟩, q⟩ := h
  walk_at "zz"
  refine s_ix_l (SqL.of hp) (v := .int z) rfl ?_
  walk_at "zz"
  refine c_setL 2 [.int x, .int y, .int (z + 1)] hp rfl rfl fun H1 B1 hp1 => ?_
  walk_at "zz"
  refine s_ix_l (SqL.of hp1) (v := .int x) rfl ?_
  walk_at "zz"
  refine s_ifd (fun c => ?_) (fun c => ?_)
  · walk_at "zz"
    refine s_ix_l (SqL.of hp1) (v := .int x) rfl ?_
    walk_at "zz"
    refine s_ix_l (SqL.of hp1) (v := .int x) rfl ?_
    walk_at "zz"
    refine s_fdvq ⟨hm, hm2⟩ ?_
    walk_at "zz"
    refine c_setL 0 [.int (x / m), .int y, .int (z + 1)] hp1 rfl rfl fun H2 B2 hp2 => ?_
    walk_at "zz"
    exact q _ _ (Int.emod_nonneg _ (by omega)) (Int.emod_lt_of_pos _ hm) ⟨_, _, _, Int.ediv_nonneg hx (by omega), hy, ⟨by omega, by omega⟩, hp2⟩ (B1.trans B2)
  · walk_at "zz"
    refine s_ix_l (SqL.of hp1) (v := .int y) rfl ?_
    walk_at "zz"
    refine s_ix_l (SqL.of hp1) (v := .int (z + 1)) rfl ?_
    walk_at "zz"
    refine s_ix_l (SqL.of hp1) (v := .int (z + 1)) rfl ?_
    walk_at "zz"
    have b1 := Int.emod_nonneg ((y + 48271 * (z + 1) + 11) % 2147483629 * ((y + 48271 * (z + 1) + 11) % 2147483629)) (show (2147483587 : Int) ≠ 0 by decide)
    have b2 := Int.emod_lt_of_pos ((y + 48271 * (z + 1) + 11) % 2147483629 * ((y + 48271 * (z + 1) + 11) % 2147483629)) (show (0 : Int) < 2147483587 by decide)
    generalize (y + 48271 * (z + 1) + 11) % 2147483629 * ((y + 48271 * (z + 1) + 11) % 2147483629) % 2147483587 = w at b1 b2 ⊢
    try (refine s_mulp ?_ ?_; · omega)
    try walk_at "zz"
    exact q _ _ (Int.emod_nonneg _ (by omega)) (Int.emod_lt_of_pos _ hm) ⟨_, _, _, hx, hy, ⟨by omega, by omega⟩, hp1⟩ B1

theorem lw_split : Txt.split ("fun with is set all pick loop call fail add sub mul quo rest less same push at put size new" : Str) (" " : Str) = LW := by
  rw [bl_is, split_eq _ (by decide)]
  decide +kernel
theorem rd_Lwords {Z : Adr} (T : Top Z) {H : Hp} {Q : VK} {E : XK} (h : q_Lwords Z  H Q E) : t_Lwords Z (fun cls d _ H => E cls d H) ⟨fun _ H' => Q .non H', Q, fun _ _ => False, fun _ _ => False⟩ [none] H := by
  unfold t_Lwords
  have q := h
  walk_at "zz"
  refine ⟨_, _, rfl, rfl, rfl, by decide +kernel, fun l hl => ?_⟩
  rw [lw_split]
  exact q l _ (same_new hl) hl upd_same

theorem rd_Lname {Z : Adr} (T : Top Z) {a0 a1 : V} {H : Hp} {Q : VK} {E : XK} (h : q_Lname Z a0 a1 H Q E) : t_Lname Z (fun cls d _ H => E cls d H) ⟨fun _ H' => Q .non H', Q, fun _ _ => False, fun _ _ => False⟩ [some a0, some a1, none, none, none, none, none] H := by
  unfold t_Lname
  obtain ⟨p, lt, tk, n, rfl, rfl, hn, P, hlt, htk, nlp, q⟩ := h
  walk_at "zz"
  refine cl_Ldraw ⟨p, 8, n, rfl, rfl, by decide, by decide, by omega, P, fun v H1 v0 v1 P1 B1 => ?_⟩
  walk_at "zz"
  intro l1 hl1
  generalize hU : L2.upd H1 l1 _ = H2
  have S2 : _root_.Z.Same H1 H2 := hU ▸ _root_.Z.same_new hl1
  have h2 := (congrFun hU l1).symm
  rw [L2.upd_same] at h2
  clear hU
  have n1 : l1 ≠ p := P1.ne hl1
  walk_at "zz"
  refine cl_Ldraw ⟨p, 6, n + 1, rfl, rfl, by decide, by decide, by omega, P1.same S2, fun u H3 u0 u1 P3 B3 => ?_⟩
  walk_at "zz"
  obtain ⟨j, rfl⟩ : ∃ j : Nat, u = (j : Int) := ⟨u.toNat, by omega⟩
  obtain ⟨sz, hsz, e1, e2⟩ : ∃ sz : Nat, [V.int 1, V.int 1, V.int 2, V.int 3, V.int 8, V.int (1 + v)][j]? = some (.int (sz : Int)) ∧ 1 ≤ sz ∧ sz ≤ 8 := by
    match j, u1 with
    | 0, _ => exact ⟨1, rfl, by decide, by decide⟩
    | 1, _ => exact ⟨1, rfl, by decide, by decide⟩
    | 2, _ => exact ⟨2, rfl, by decide, by decide⟩
    | 3, _ => exact ⟨3, rfl, by decide, by decide⟩
    | 4, _ => exact ⟨8, rfl, by decide, by decide⟩
    | 5, _ => exact ⟨(1 + v).toNat, by show some (V.int (1 + v)) = _; rw [Int.toNat_of_nonneg (by omega)], by omega, by omega⟩
    | j + 6, h => exact absurd h (by omega)
  refine s_ixN (m := j) (SqL.of (B3.rd n1 h2)) hsz ?_
  have hlt3 : H3 lt = some (.lst (tk.map V.str)) := B3.rd nlp (S2 _ _ (B1.rd nlp hlt))
  have B03 : But p H H3 := (B1.trans (.of S2)).trans B3
  walk_at "zz"
  refine lc_rng (fun D i H' => Pl (n + 2 + i) H' p ∧ But p H3 H' ∧ ∃ cs : List Nat, H' D = some (.lst ((cs.map ch1).map V.str)) ∧ cs.length = i ∧ Lets cs) (fun D hD => ⟨(P3.new hD).le (by omega), (But.refl p H3).new hD, [], upd_same, rfl, fun c hc => by cases hc⟩) ?_ ?_
  · rintro D i H4 hD hi ⟨P4, B4, cs, hcs, hl, hL⟩
    have nDp : D ≠ p := P3.ne hD
    walk_at "zz"
    refine cl_Ldraw ⟨p, 26, n + 2 + i, rfl, rfl, by decide, by decide, by omega, P4, fun w H5 w0 w1 P5 B5 => ?_⟩
    walk_at "zz"
    obtain ⟨k, rfl⟩ : ∃ k : Nat, w = (k : Int) := ⟨w.toNat, by omega⟩
    have hk : k < 26 := by omega
    refine s_ix_s (cc := 97 + k) (by decide +kernel) (by rw [LET_ls]; exact atI_nat (LETL_at ⟨k, hk⟩)) ?_
    walk_at "zz"
    refine c_acc (B5.rd nDp hcs) ?_ fun H6 B6 h6 => ?_
    · rw [List.length_map, List.length_map, hl]
      exact Nat.lt_of_lt_of_le (show i < 9 by omega) (by decide)
    · refine ⟨(P5.but B6 nDp.symm).le (by omega), (B4.trans B5).own B6 hD, cs ++ [97 + k], by rw [h6]; simp [ch1, ofL], by simp [hl], fun c hc => ?_⟩
      rcases List.mem_append.mp hc with z | z
      · exact hL c z
      · rw [List.mem_singleton.mp z]; omega
  · rintro D H4 hD ⟨P4, B4, cs, hcs, hl, hL⟩
    rw [Int.toNat_natCast] at hl P4
    have nDp : D ≠ p := P3.ne hD
    have nDl : D ≠ lt := (ne_of_none hlt3 hD).symm
    have hlt4 : H4 lt = some (.lst (tk.map V.str)) := B4.rd nlp hlt3
    obtain ⟨pre, c0, hc0, ecs⟩ : ∃ pre c0, c0 < 26 ∧ cs = pre ++ [97 + c0] := by
      have hne : cs ≠ [] := fun z => by rw [z] at hl; simp at hl; omega
      have hlast := hL _ (List.getLast_mem hne)
      exact ⟨cs.dropLast, cs.getLast hne - 97, by omega, by rw [show 97 + (cs.getLast hne - 97) = cs.getLast hne by omega, List.dropLast_concat_getLast hne]⟩
    have hpre : Lets pre := fun c hc => hL c (by rw [ecs]; exact List.mem_append_left _ hc)
    have plen : pre.length + 1 = sz := by rw [← hl, ecs, List.length_append]; rfl
    walk_at "zz"
    refine s_while (fun m σ' H' => ∃ (i : Nat) (x5 x6 : Option V), m = 26 - i ∧ i < 26 ∧ But D H4 H' ∧ H' D = some (.lst (((pre ++ [97 + (c0 + i) % 26]).map ch1).map V.str)) ∧ (∀ j, j < i → ofL (pre ++ [97 + (c0 + j) % 26]) ∈ tk ++ LW) ∧ σ' = [some (.ref p), some (.ref lt), some (.str "abcdefghijklmnopqrstuvwxyz"), some (.int (sz : Int)), some (.ref D), x5, x6]) 26
      ⟨0, none, none, rfl, by decide, But.refl D H4, by rw [hcs, ecs, Nat.add_zero, Nat.mod_eq_of_lt hc0], fun j hj => by omega, rfl⟩ ?_
    rintro m σ' H5 ⟨i, x5, x6, rfl, hi, B5, hD5, hbar, rfl⟩
    have hlt5 : H5 lt = some (.lst (tk.map V.str)) := B5.rd nDl.symm hlt4
    have lenj : ((((pre ++ [97 + (c0 + i) % 26]).map ch1)).map (fun s : Str => s.length)).sum + ((pre ++ [97 + (c0 + i) % 26]).map ch1).length * ("" : Str).length ≤ 16777216 := by
      rw [show ("" : Str).length = 0 by decide +kernel, Nat.mul_zero, Nat.add_zero]
      have := sum_len (l := (pre ++ [97 + (c0 + i) % 26]).map ch1) (m := 1) (fun w hw => by
        obtain ⟨c, _, rfl⟩ := List.mem_map.mp hw
        exact Nat.le_refl 1)
      rw [List.length_map, List.length_append, List.length_singleton] at this
      omega
    walk_at "zz"
    refine s_join_l (SqL.of hD5) lenj ?_
    rw [join_ch]
    walk_at "zz"
    refine cl_Lwords fun lw H6 S6 hlw0 hlw => ?_
    refine s_add_S (S6 _ _ hlt5) hlw (by rw [List.length_map, List.length_map]; exact Nat.le_trans (show _ ≤ 100 by have : LW.length = 21 := rfl; omega) (by decide)) fun la H7 S7 hla0 hla => ?_
    have hla' : H7 la = some (.lst ((tk ++ LW).map V.str)) := by rw [hla, List.map_append]
    have S57 := S6.trans S7
    have hD7 := S57 _ _ hD5
    refine s_in_l (SqL.of hla') rfl (flat_strs _) ?_
    rw [inV_strs]
    walk_at "zz"
    refine s_ifd (fun c => ?_) (fun c => ?_)
    · have i25 : i + 1 < 26 := by
        refine Nat.lt_of_le_of_ne hi fun e => ?_
        refine letters_free pre tk c0 (by omega) fun j hj => ?_
        by_cases z : j < i
        · exact hbar j z
        · rw [show j = i by omega]; exact c
      walk_at "zz"
      have eL : ((pre ++ [97 + (c0 + i) % 26]).map ch1).map V.str = (pre.map ch1).map V.str ++ [.str (ch1 (97 + (c0 + i) % 26))] := by simp
      rw [eL] at hD7
      have lp : ((pre.map ch1).map V.str ++ [V.str (ch1 (97 + (c0 + i) % 26))])[((pre.map ch1).map V.str ++ [V.str (ch1 (97 + (c0 + i) % 26))]).length - 1]? = some (.str (ch1 (97 + (c0 + i) % 26))) := by
        rw [List.length_append, List.length_singleton, Nat.add_sub_cancel, List.getElem?_append_right (Nat.le_refl _), Nat.sub_self]; rfl
      refine s_ix_l (SqL.of hD7) (at_neg1 lp) ?_
      walk_at "zz"
      have hm : (c0 + i) % 26 < 26 := Nat.mod_lt _ (by decide)
      refine s_sindex (let_occ ⟨(c0 + i) % 26, hm⟩) ?_
      walk_at "zz"
      have e : (((((c0 + i) % 26 : Nat) : Int) + 1) % 26) = (((c0 + (i + 1)) % 26 : Nat) : Int) := by omega
      show rIx Z.K _ (V.int (((((c0 + i) % 26 : Nat) : Int) + 1) % 26)) H7 _
      rw [e]
      have hm2 : (c0 + (i + 1)) % 26 < 26 := Nat.mod_lt _ (by decide)
      refine s_ix_s (cc := 97 + (c0 + (i + 1)) % 26) (by decide +kernel) (by rw [LET_ls]; exact atI_nat (LETL_at ⟨_, hm2⟩)) ?_
      walk_at "zz"
      refine c_setL (pre.length) (((pre ++ [97 + (c0 + (i + 1)) % 26]).map ch1).map V.str) hD7 ?_ ?_ fun H8 B8 h8 => ?_
      · rw [List.length_append, List.length_singleton, List.length_map, List.length_map]
        unfold ixN
        rw [if_neg (by omega), if_pos (by omega)]
        congr 1
        omega
      · rw [List.set_append_right _ _ (by simp)]
        simp [ch1, ofL]
      · refine ⟨26 - (i + 1), by omega, i + 1, _, _, rfl, i25, (B5.trans (.of S57)).trans B8, h8, fun j hj => ?_, rfl⟩
        by_cases z : j < i
        · exact hbar j z
        · rw [show j = i by omega]; exact c
    · walk_at "zz"
      refine s_join_l (SqL.of hD7) lenj ?_
      rw [join_ch]
      have hc := fun z => c (List.mem_append_left _ z)
      refine q _ H7 (isName_of (by simp) (by rw [List.length_append, List.length_singleton]; omega) (fun x hx => ?_) fun z => c (List.mem_append_right _ z)) hc ((((P4.but B5 nDp.symm).same S57)).le (by omega)) (((B03.trans B4).own B5 (B03.none nDp hD)).trans (.of S57))
      rcases List.mem_append.mp hx with z | z
      · exact hpre x z
      · rw [List.mem_singleton.mp z]
        have := Nat.mod_lt (c0 + i) (show 0 < 26 by decide)
        omega

theorem rd_Lheads {Z : Adr} (T : Top Z) {a0 a1 : V} {H : Hp} {Q : VK} {E : XK} (h : q_Lheads Z a0 a1 H Q E) : t_Lheads Z (fun cls d _ H => E cls d H) ⟨fun _ H' => Q .non H', Q, fun _ _ => False, fun _ _ => False⟩ [some a0, some a1, none, none, none, none, none, none, none] H := by
  unfold t_Lheads
  obtain ⟨p, m, n, rfl, rfl, m1, m16, hn, P, q⟩ := h
  walk_at "zz"
  intro l hl
  generalize hU : L2.upd H l _ = H1
  have S1 : _root_.Z.Same H H1 := hU ▸ _root_.Z.same_new hl
  have h1 := (congrFun hU l).symm
  rw [L2.upd_same] at h1
  clear hU
  walk_at "zz"
  intro lt hlt
  generalize hU : L2.upd H1 lt _ = H2
  have S2 : _root_.Z.Same H1 H2 := hU ▸ _root_.Z.same_new hlt
  have h2 := (congrFun hU lt).symm
  rw [L2.upd_same] at h2
  clear hU
  have n1 : l ≠ p := P.ne hl
  have n2 : lt ≠ p := (P.same S1).ne hlt
  have n3 : l ≠ lt := ne_of_none h1 hlt
  have hlt0 : H lt = none := S1.free hlt
  walk_at "zz"
  refine cl_Ldraw ⟨p, m, n, rfl, rfl, by omega, by omega, by omega, (P.same S1).same S2, fun v H3 v0 v1 P3 B3 => ?_⟩
  have B03 : But p H H3 := ((But.of S1).trans (.of S2)).trans B3
  have f1 := B3.rd n1 (S2 _ _ h1)
  have f2 := B3.rd n2 h2
  walk_at "zz"
  refine loop_range (fun i σ' H' => ∃ (vs : List V) (hs : List (Int × Int)) (nm : Nms) (x4 x5 x6 x7 x8 : Option V), Pl (n + 1 + 140 * i) H' p ∧ But p H H' ∧ H' l = some (.lst vs) ∧ H' lt = some (.lst ((nm.map (·.1)).map V.str)) ∧ HdsG H' hs nm vs ∧ HdInv hs nm ∧ hs.length = i ∧
    σ' = [some (.ref p), some (.int m), some (.ref l), some (.ref lt), x4, x5, x6, x7, x8]) ⟨[], [], [], none, none, none, none, none, P3.le (by omega), B03, f1, f2, rfl, HdInv.nil, rfl, rfl⟩ ?_ ?_
  · rintro i σ' H4 hi ⟨vs, hs, nm, x4, x5, x6, x7, x8, P4, B4, hl4, ht4, G4, I4, len, rfl⟩
    have hi16 : i < 16 := by omega
    have lnm := I4.l
    walk_at "zz"
    refine cl_Lname ⟨p, lt, nm.map (·.1), n + 1 + 140 * i, rfl, rfl, by omega, P4, ht4, by rw [List.length_map]; omega, n2, fun w H5 hw hwn P5 B5 => ?_⟩
    have T45 := P4.tups B5
    walk_at "zz"
    refine c_append (B5.rd n2 ht4) (by rw [List.length_map, List.length_map]; exact Nat.lt_of_le_of_lt (show _ ≤ 16 by omega) (by decide)) fun H6 B6 h6 => ?_
    have P6 := P5.but B6 n2.symm
    have T56 : TupS H5 H6 := TupS.butL B6 (B5.rd n2 ht4)
    have hl6 := B6.rd n3 (B5.rd n1 hl4)
    walk_at "zz"
    refine cl_Ldraw ⟨p, 5, n + 1 + 140 * i + 10, rfl, rfl, by decide, by decide, by omega, P6, fun pr H7 p0 p1 P7 B7 => ?_⟩
    have T67 := P6.tups B7
    walk_at "zz"
    have epr : ∃ pj : Nat, pr * (if decide ((0 : Int) < 0 + i) = true then 1 else 0) = (pj : Int) ∧ (pj : Int) ≤ (if 0 < hs.length then 4 else 0) ∧ pj ≤ 4 := by
      rw [len]
      by_cases c : 0 < i
      · rw [if_pos (by simpa using c), if_pos c, Int.mul_one]
        exact ⟨pr.toNat, by omega, by omega, by omega⟩
      · rw [if_neg (by simpa using c), if_neg c, Int.mul_zero]
        exact ⟨0, rfl, by decide, by decide⟩
    obtain ⟨pj, ep, ep1, ep2⟩ := epr
    intro lb hlb
    generalize hU : L2.upd H7 lb _ = H8
    have S8 : _root_.Z.Same H7 H8 := hU ▸ _root_.Z.same_new hlb
    have h8 := (congrFun hU lb).symm
    rw [L2.upd_same] at h8
    clear hU
    walk_at "zz"
    rw [ep]
    intro lq hlq
    generalize hU : L2.upd H8 lq _ = H9
    have S9 : _root_.Z.Same H8 H9 := hU ▸ _root_.Z.same_new hlq
    have h9 := (congrFun hU lq).symm
    rw [L2.upd_same] at h9
    clear hU
    have P9 := (P7.same S8).same S9
    have n4 : lq ≠ p := (P7.same S8).ne hlq
    have n5 : lb ≠ p := P7.ne hlb
    walk_at "zz"
    refine cl_Ldraw ⟨p, 6, n + 1 + 140 * i + 10 + 1, rfl, rfl, by decide, by decide, by omega, P9, fun z H10 z0 z1 P10 B10 => ?_⟩
    have hq10 := B10.rd n4 h9
    have hb10 := B10.rd n5 (S9 _ _ h8)
    walk_at "zz"
    have ej : ∃ (j : Nat) (k : Int), (if decide (z = 0) = true then (1 : Int) else 0) = (j : Int) ∧ [V.int 3, V.int (13 - (pj : Int))][j]? = some (.int k) ∧ 3 ≤ k ∧ pj + k ≤ 13 := by
      by_cases c : z = 0
      · rw [decide_eq_true c, if_pos rfl]
        exact ⟨1, 13 - (pj : Int), rfl, rfl, by omega, by omega⟩
      · rw [decide_eq_false c, if_neg (by decide)]
        exact ⟨0, 3, rfl, rfl, by omega, by omega⟩
    obtain ⟨j, k, ej, ek, k1, k2⟩ := ej
    rw [ej]
    refine s_ixN (m := j) (SqL.of hq10) ek ?_
    walk_at "zz"
    refine cl_Ldraw ⟨p, k, n + 1 + 140 * i + 10 + 1 + 1, rfl, rfl, by omega, by omega, by omega, P10, fun y H11 y0 y1 P11 B11 => ?_⟩
    have hb11 := B11.rd n5 hb10
    walk_at "zz"
    refine loop_range (fun a σ' H' => ∃ (bx : List Str) (x8 : Option V), Pl (n + 1 + 140 * i + 10 + 1 + 1 + 1 + 10 * a) H' p ∧ But2 p lb H11 H' ∧ H' lb = some (.lst (bx.map V.str)) ∧ bx.length = a ∧ (∀ x ∈ bx, isName x = true) ∧ bx.Nodup ∧
      σ' = [some (.ref p), some (.int m), some (.ref l), some (.ref lt), some (.int (0 + (i : Int))), some (.str w), some (.int (pj : Int)), some (.ref lb), x8]) ⟨[], x8, P11.le (by omega), But2.of (Same.refl H11), hb11, rfl, fun x hx => (by cases hx), List.nodup_nil, rfl⟩ ?_ ?_
    · rintro a σ' H12 ha ⟨bx, x8', P12, B12, hb12, hbl, hbn, hbd, rfl⟩
      have ha12 : a < 12 := by omega
      walk_at "zz"
      refine cl_Lname ⟨p, lb, bx, n + 1 + 140 * i + 10 + 1 + 1 + 1 + 10 * a, rfl, rfl, by omega, P12, hb12, by omega, n5, fun w2 H13 hw2 hwn2 P13 B13 => ?_⟩
      walk_at "zz"
      refine c_append (B13.rd n5 hb12) (by rw [List.length_map]; exact Nat.lt_of_le_of_lt (show _ ≤ 16 by omega) (by decide)) fun H14 B14 h14 => ?_
      walk_at "zz"
      refine ⟨bx ++ [w2], _, (P13.but B14 n5.symm).le (by omega), (B12.trans (.left B13)).trans (.right B14), by rw [h14]; simp, by simp [hbl], fun x hx => ?_, nodup_snoc hbd hwn2, rfl⟩
      rcases List.mem_append.mp hx with z | z
      · exact hbn x z
      · rw [List.mem_singleton.mp z]; exact hw2
    · rintro σ' H12 ⟨bx, x8', P12, B12, hb12, hbl, hbn, hbd, rfl⟩
      have hl7 := B7.rd n1 hl6
      have ht7 := B7.rd n2 h6
      have n6 : l ≠ lb := ne_of_none hl7 hlb
      have n7 : lt ≠ lb := ne_of_none ht7 hlb
      have S79 := S8.trans S9
      have hl12 := B12.rd n1 n6 (B11.rd n1 (B10.rd n1 (S79 _ _ hl7)))
      have ht12 := B12.rd n2 n7 (B11.rd n2 (B10.rd n2 (S79 _ _ ht7)))
      have B411 : But p H H11 := ((((B4.trans B5).own B6 hlt0).trans B7).trans (.of S79)).trans B10 |>.trans B11
      have hlb0 : H lb = none := (((B4.trans B5).own B6 hlt0).trans B7).none n5 hlb
      have B412 : But p H H12 := (But2.left (q := lb) B411).trans B12 |>.one hlb0
      obtain ⟨xa, xb, xc, _, _, _, hpp⟩ := id P11
      have T412 : TupS H4 H12 := ((((((T45.trans T56).trans T67).trans (TupS.of S79)).trans (P9.tups B10)).trans (P10.tups B11)).trans (But2.tups B12 hpp (by simp) hb11 (by simp)))
      have G12 := G4.mono T412
      walk_at "zz"
      intro t1 ht1
      generalize hU : L2.upd H12 t1 _ = H13
      have S13 : _root_.Z.Same H12 H13 := hU ▸ _root_.Z.same_new ht1
      have h13 := (congrFun hU t1).symm
      rw [L2.upd_same] at h13
      clear hU
      walk_at "zz"
      intro t2 ht2
      generalize hU : L2.upd H13 t2 _ = H14
      have S14 : _root_.Z.Same H13 H14 := hU ▸ _root_.Z.same_new ht2
      have h14 := (congrFun hU t2).symm
      rw [L2.upd_same] at h14
      clear hU
      have S1214 := S13.trans S14
      have hl14 := S1214 _ _ hl12
      walk_at "zz"
      refine c_append hl14 (by rw [G12.len.1]; exact Nat.lt_of_le_of_lt (show _ ≤ 16 by omega) (by decide)) fun H15 B15 h15 => ?_
      walk_at "zz"
      have T1415 : TupS H14 H15 := TupS.butL B15 hl14
      have G15 := (G12.mono (TupS.of S1214)).mono T1415
      refine ⟨_, hs ++ [((pj : Int), (bx.length : Int))], nm ++ [(w, bx)], _, _, _, _, _, (((P12.same S1214).but B15 n1.symm)).le (by omega), ((B412.trans (.of S1214)).own B15 hl), h15, ?_, ?_, ?_, by simp [len], rfl⟩
      · rw [B15.rd n3.symm (S1214 _ _ ht12)]; simp
      · exact HdsG.app (n := (w, bx)) (h := ((pj : Int), (bx.length : Int))) (T1415 _ _ h14) (T1415 _ _ (S14 _ _ h13)) G15
      · exact I4.app hw hwn hbn hbd rfl (by omega) (by omega) (by omega) (by omega)
  · rintro σ' H4 ⟨vs, hs, nm, x4, x5, x6, x7, x8, P4, B4, hl4, ht4, G4, I4, len, rfl⟩
    walk_at "zz"
    exact q l vs hs nm H4 B4 (P4.le (by omega)) hl hl4 G4 (I4.heads (by omega) (by omega)) I4.nms (by omega)

theorem rd_Lnumber {Z : Adr} (T : Top Z) {a0 a1 : V} {H : Hp} {Q : VK} {E : XK} (h : q_Lnumber Z a0 a1 H Q E) : t_Lnumber Z (fun cls d _ H => E cls d H) ⟨fun _ H' => Q .non H', Q, fun _ _ => False, fun _ _ => False⟩ [some a0, some a1, none] H := by
  unfold t_Lnumber
  obtain ⟨p, k, n, rfl, rfl, hn, P, q⟩ := h
  walk_at "zz"
  refine cl_Ldraw ⟨p, 6, n, rfl, rfl, by decide, by decide, by omega, P, fun v H1 v0 v1 P1 B1 => ?_⟩
  walk_at "zz"
  refine s_ifd (fun c => ?_) (fun c => ?_)
  · walk_at "zz"
    refine cl_Ldraw ⟨p, 12, n + 1, rfl, rfl, by decide, by decide, by omega, P1, fun w H2 w0 w1 P2 B2 => ?_⟩
    walk_at "zz"
    exact q _ _ (by omega) (P2.le (by omega)) (B1.trans B2)
  walk_at "zz"
  refine s_ifd (fun c => ?_) (fun c => ?_)
  · walk_at "zz"
    refine cl_Ldraw ⟨p, 2001, n + 1, rfl, rfl, by decide, by decide, by omega, P1, fun w H2 w0 w1 P2 B2 => ?_⟩
    walk_at "zz"
    exact q _ _ (by omega) (P2.le (by omega)) (B1.trans B2)
  cases k with
  | false =>
    walk_at "zz"
    refine cl_Ldraw ⟨p, 2001, n + 1, rfl, rfl, by decide, by decide, by omega, P1, fun w H2 w0 w1 P2 B2 => ?_⟩
    walk_at "zz"
    exact q _ _ (by omega) (P2.le (by omega)) (B1.trans B2)
  | true =>
    walk_at "zz"
    refine cl_Ldraw ⟨p, 1000000, n + 1, rfl, rfl, by decide, by decide, by omega, P1, fun w H2 w0 w1 P2 B2 => ?_⟩
    walk_at "zz"
    refine cl_Ldraw ⟨p, 2, n + 1 + 1, rfl, rfl, by decide, by decide, by omega, P2, fun u H3 u0 u1 P3 B3 => ?_⟩
    walk_at "zz"
    rcases (show u = 0 ∨ u = 1 by omega) with rfl | rfl
    · exact q _ _ (by omega) (P3.le (by omega)) ((B1.trans B2).trans B3)
    · exact q _ _ (by omega) (P3.le (by omega)) ((B1.trans B2).trans B3)

theorem rd_Lshape {Z : Adr} (T : Top Z) {n : Nat} {a0 a1 a2 a3 a4 : V} {H : Hp} {Q : VK} {E : XK} (h : q_Lshape Z (n + 1) a0 a1 a2 a3 a4 H Q E) : t_Lshape Z n (fun cls d _ H => E cls d H) ⟨fun _ H' => Q .non H', Q, fun _ _ => False, fun _ _ => False⟩ [some a0, some a1, some a2, some a3, some a4, none, none, none, none, none, none, none, none, none, none, none] H := by
  unfold t_Lshape
  obtain ⟨p, lh, tb, lf, vs, hs, nm, bx, L, deep, c0, f, rfl, rfl, rfl, rfl, rfl, hdf, hf1, hfn, hc0, P, hlh, G, htb, hlf, npf, nph, nfh, HOK, hbx, hbn, hL, q⟩ := h
  have hlen := HOK.1
  have hlen2 := HOK.2.1
  walk_at "zz"
  refine s_ix_l (SqL.of hlf) (v := .int L) rfl ?_
  walk_at "zz"
  refine c_setL 0 [.int (L - 1)] hlf rfl rfl fun H1 B1 h1 => ?_
  have P1 := P.but B1 npf
  have l1 := B1.rd nfh.symm hlh
  have T1 : TupS H H1 := TupS.butL B1 hlf
  have t1 := T1 _ _ htb
  have G1 := G.mono T1
  walk_at "zz"
  refine cl_Ldraw ⟨p, 20, c0, rfl, rfl, by decide, by decide, by omega, P1, fun kd H2 k0 k1 P2 B2 => ?_⟩
  have l2 := B2.rd nph.symm l1
  have T2 := P1.tups B2
  have t2 := T2 _ _ t1
  have G2 := G1.mono T2
  have h2 := B2.rd npf.symm h1
  have B02 : But2 p lf H H2 := (But2.right B1).trans (.left B2)
  walk_at "zz"
  refine s_cut (fun σ' H' => ∃ (kd : Int) (c : Int), 0 ≤ kd ∧ kd ≤ 19 ∧ c ≤ c0 + 2 ∧ Pl c H' p ∧ But2 p lf H H' ∧ H' lf = some (.lst [.int (L - 1)]) ∧ H' lh = some (.lst vs) ∧ HdsG H' hs nm vs ∧ H' tb = some (.tup (bx.map V.str)) ∧ ((kd = 0 ∨ kd = 1 ∨ kd = 19) ∨ (2 ≤ L ∧ deep ≠ 10)) ∧
    σ' = [some (.ref p), some (.ref lh), some (.ref tb), some (.ref lf), some (.int deep), some (.int kd), none, none, none, none, none, none, none, none, none, none]) ?_ ?_
  · walk_at "zz"
    refine s_ix_l (SqL.of h2) (v := .int (L - 1)) rfl ?_
    walk_at "zz"
    refine s_ifd (fun c => ?_) (fun c => ?_)
    · walk_at "zz"
      intro l3 hl3
      generalize hU : L2.upd H2 l3 _ = H3
      have S3 : _root_.Z.Same H2 H3 := hU ▸ _root_.Z.same_new hl3
      have h3 := (congrFun hU l3).symm
      rw [L2.upd_same] at h3
      clear hU
      walk_at "zz"
      refine cl_Ldraw ⟨p, 3, c0 + 1, rfl, rfl, by decide, by decide, by omega, P2.same S3, fun u H4 u0 u1 P4 B4 => ?_⟩
      have n3 : l3 ≠ p := P2.ne hl3
      obtain ⟨j, rfl⟩ : ∃ j : Nat, u = (j : Int) := ⟨u.toNat, by omega⟩
      obtain ⟨kn, ekn, hkn⟩ : ∃ kn : Int, [V.int 0, V.int 1, V.int 19][j]? = some (.int kn) ∧ (kn = 0 ∨ kn = 1 ∨ kn = 19) := by
        match j, u1 with
        | 0, _ => exact ⟨0, rfl, .inl rfl⟩
        | 1, _ => exact ⟨1, rfl, .inr (.inl rfl)⟩
        | 2, _ => exact ⟨19, rfl, .inr (.inr rfl)⟩
        | j + 3, h => exact absurd h (by omega)
      walk_at "zz"
      refine s_ixN (m := j) (SqL.of (B4.rd n3 h3)) ekn ?_
      walk_at "zz"
      have T4 := (P2.same S3).tups B4
      exact ⟨kn, c0 + 1 + 1, by omega, by omega, by omega, P4, B02.trans (.left ((But.of S3).trans B4)), B4.rd npf.symm (S3 _ _ h2), B4.rd nph.symm (S3 _ _ l2), (G2.mono (TupS.of S3)).mono T4, T4 _ _ (S3 _ _ t2), .inl hkn, rfl⟩
    walk_at "zz"
    refine s_ifd (fun d => ?_) (fun d => ?_)
    · walk_at "zz"
      intro l3 hl3
      generalize hU : L2.upd H2 l3 _ = H3
      have S3 : _root_.Z.Same H2 H3 := hU ▸ _root_.Z.same_new hl3
      have h3 := (congrFun hU l3).symm
      rw [L2.upd_same] at h3
      clear hU
      walk_at "zz"
      refine cl_Ldraw ⟨p, 3, c0 + 1, rfl, rfl, by decide, by decide, by omega, P2.same S3, fun u H4 u0 u1 P4 B4 => ?_⟩
      have n3 : l3 ≠ p := P2.ne hl3
      obtain ⟨j, rfl⟩ : ∃ j : Nat, u = (j : Int) := ⟨u.toNat, by omega⟩
      obtain ⟨kn, ekn, hkn⟩ : ∃ kn : Int, [V.int 0, V.int 1, V.int 19][j]? = some (.int kn) ∧ (kn = 0 ∨ kn = 1 ∨ kn = 19) := by
        match j, u1 with
        | 0, _ => exact ⟨0, rfl, .inl rfl⟩
        | 1, _ => exact ⟨1, rfl, .inr (.inl rfl)⟩
        | 2, _ => exact ⟨19, rfl, .inr (.inr rfl)⟩
        | j + 3, h => exact absurd h (by omega)
      walk_at "zz"
      refine s_ixN (m := j) (SqL.of (B4.rd n3 h3)) ekn ?_
      walk_at "zz"
      have T4 := (P2.same S3).tups B4
      exact ⟨kn, c0 + 1 + 1, by omega, by omega, by omega, P4, B02.trans (.left ((But.of S3).trans B4)), B4.rd npf.symm (S3 _ _ h2), B4.rd nph.symm (S3 _ _ l2), (G2.mono (TupS.of S3)).mono T4, T4 _ _ (S3 _ _ t2), .inl hkn, rfl⟩
    walk_at "zz"
    exact ⟨kd, c0 + 1, k0, by omega, by omega, P2, B02, h2, l2, G2, t2, .inr ⟨by omega, d⟩, rfl⟩
  rintro σ' H3 ⟨kd, c, k0, k1, hc, P3, B3, h3, l3, G3, t3, hkd, rfl⟩
  refine s_cut (fun σ' H' => ∃ kd : Int, 0 ≤ kd ∧ kd ≤ 19 ∧ Pl c H' p ∧ But2 p lf H H' ∧ H' lf = some (.lst [.int (L - 1)]) ∧ H' lh = some (.lst vs) ∧ HdsG H' hs nm vs ∧ H' tb = some (.tup (bx.map V.str)) ∧ ((kd = 0 ∨ kd = 1 ∨ kd = 19) ∨ (2 ≤ L ∧ deep ≠ 10)) ∧ ((kd = 1 ∨ kd = 2) → bx ≠ []) ∧
    σ' = [some (.ref p), some (.ref lh), some (.ref tb), some (.ref lf), some (.int deep), some (.int kd), none, none, none, none, none, none, none, none, none, none]) ?_ ?_
  · walk_at "zz"
    intro ta hta
    generalize hU : L2.upd H3 ta _ = H4
    have S4 : _root_.Z.Same H3 H4 := hU ▸ _root_.Z.same_new hta
    have h4 := (congrFun hU ta).symm
    rw [L2.upd_same] at h4
    clear hU
    refine s_in_t (SqT.of h4) rfl rfl ?_
    have ei : inV (.int kd) [V.int 1, V.int 2] = decide (kd = 1 ∨ kd = 2) := by
      unfold inV
      simp only [List.any_cons, List.any_nil, Bool.or_false]
      show ((1 == kd) || (2 == kd)) = _
      by_cases a : kd = 1
      · subst a; rfl
      · by_cases b : kd = 2
        · subst b; rfl
        · rw [decide_eq_false (by omega), Bool.or_eq_false_iff]
          exact ⟨by simpa using fun z => a z.symm, by simpa using fun z => b z.symm⟩
    rw [ei]
    have stay : ∀ {H' : Hp}, Same H3 H' → Pl c H' p ∧ But2 p lf H H' ∧ H' lf = some (.lst [.int (L - 1)]) ∧ H' lh = some (.lst vs) ∧ HdsG H' hs nm vs ∧ H' tb = some (.tup (bx.map V.str)) := fun S => ⟨P3.same S, B3.trans (.of S), S _ _ h3, S _ _ l3, G3.mono (TupS.of S), S _ _ t3⟩
    walk_at "zz"
    refine s_ifd (fun d => ?_) (fun d => ?_)
    · walk_at "zz"
      intro tc htc
      generalize hU : L2.upd H4 tc _ = H5
      have S5 : _root_.Z.Same H4 H5 := hU ▸ _root_.Z.same_new htc
      have h5 := (congrFun hU tc).symm
      rw [L2.upd_same] at h5
      clear hU
      refine s_eq_d (.tup (SqT.of (S5 _ _ (S4 _ _ t3))) (dp_strs bx)) (.tup (SqT.of h5) .nil) ((strs_sh hbn).shaped (by decide)) (by decide) ?_
      rw [eqv_nil]
      walk_at "zz"
      obtain ⟨a1, a2, a3, a4, a5, a6⟩ := stay (S4.trans S5)
      refine s_ifd (fun e => ?_) (fun e => ?_)
      · walk_at "zz"
        exact ⟨0, Int.le_refl _, by decide, a1, a2, a3, a4, a5, a6, .inl (.inl rfl), fun z => by omega, rfl⟩
      · walk_at "zz"
        exact ⟨kd, k0, k1, a1, a2, a3, a4, a5, a6, hkd, fun _ => e, rfl⟩
    · walk_at "zz"
      obtain ⟨a1, a2, a3, a4, a5, a6⟩ := stay S4
      exact ⟨kd, k0, k1, a1, a2, a3, a4, a5, a6, hkd, fun z => absurd z d, rfl⟩
  clear B3 h3 l3 G3 t3 hkd k0 k1 kd
  rintro σ' H4 ⟨kd, k0, k1, P4, B4, h4, l4, G4, t4, hkd, hbe, rfl⟩
  walk_at "zz"
  have lmono : lft (L - 1) ≤ lft L := by unfold lft; split <;> split <;> omega
  obtain ⟨f, rfl⟩ : ∃ g, f = g + 1 := ⟨f - 1, by omega⟩
  refine s_ifd (fun c0' => ?_) (fun c0' => ?_)
  · subst c0'
    walk_at "zz"
    refine s_ix_l (SqL.of h4) (v := .int (L - 1)) rfl ?_
    walk_at "zz"
    refine cl_Lnumber ⟨p, _, c, rfl, rfl, by omega, P4, fun v H5 hv P5 B5 => ?_⟩
    walk_at "zz"
    refine s_strI (log_small hv) ?_
    walk_at "zz"
    intro lw hlw
    generalize hU : L2.upd H5 lw _ = H6
    have S6 : _root_.Z.Same H5 H6 := hU ▸ _root_.Z.same_new hlw
    have h6 := (congrFun hU lw).symm
    rw [L2.upd_same] at h6
    clear hU
    walk_at "zz"
    intro ln hln
    generalize hU : L2.upd H6 ln _ = H7
    have S7 : _root_.Z.Same H6 H7 := hU ▸ _root_.Z.same_new hln
    have h7 := (congrFun hU ln).symm
    rw [L2.upd_same] at h7
    clear hU
    walk_at "zz"
    intro u hu
    generalize hU : L2.upd H7 u _ = H8
    have S8 : _root_.Z.Same H7 H8 := hU ▸ _root_.Z.same_new hu
    have h8 := (congrFun hU u).symm
    rw [L2.upd_same] at h8
    clear hU
    have B45 := B4.trans (.left B5)
    have S58 := (S6.trans S7).trans S8
    have nlw : lw ≠ p ∧ lw ≠ lf := ⟨P5.ne hlw, (ne_of_none (B5.rd npf.symm h4) hlw).symm⟩
    have nln : ln ≠ p ∧ ln ≠ lf := ⟨(P5.same S6).ne hln, (ne_of_none (S6 _ _ (B5.rd npf.symm h4)) hln).symm⟩
    refine q (.mk 0 0 [v] []) (L - 1) u lw ln H8 (B45.trans (.of S58)) ((P5.same S58).le (by omega)) (S58 _ _ (B5.rd npf.symm h4)) h8 (B45.none nlw.1 nlw.2 hlw) ((B45.trans (.of S6)).none nln.1 nln.2 hln) ((S7.trans S8) _ _ h6) (S8 _ _ h7) ⟨by omega, by omega, .inl ⟨rfl, rfl, v, rfl⟩, fun x hx => by cases hx⟩ ?_ (by omega) ?_ ?_
    · intro x hx
      simp only [enc, encs, List.mem_cons, List.append_nil, List.not_mem_nil, or_false] at hx
      rcases hx with z | z
      · rw [z]; decide
      · rw [z]; exact hv
    · show ((2 : Nat) : Int) ≤ _; omega
    · show ((1 : Nat) : Int) ≤ _; omega
  walk_at "zz"
  refine s_ifd (fun c1' => ?_) (fun c1' => ?_)
  · subst c1'
    have hne : 0 < bx.length := Nat.pos_of_ne_zero fun z => hbe (.inl rfl) (List.eq_nil_of_length_eq_zero z)
    walk_at "zz"
    rw [List.length_map]
    refine cl_Ldraw ⟨p, (bx.length : Int), c, rfl, rfl, by omega, by omega, by omega, P4, fun a H5 a0 a1 P5 B5 => ?_⟩
    obtain ⟨j, rfl⟩ : ∃ j : Nat, a = (j : Int) := ⟨a.toNat, by omega⟩
    have hj : j < bx.length := by omega
    have eb : bx[j]? = some bx[j] := List.getElem?_eq_getElem hj
    have t5 := (P4.tups B5) _ _ t4
    walk_at "zz"
    refine s_ixTN (m := j) (SqT.of t5) (v := .str bx[j]) (by rw [List.getElem?_map, eb]; rfl) ?_
    walk_at "zz"
    intro lw hlw
    generalize hU : L2.upd H5 lw _ = H6
    have S6 : _root_.Z.Same H5 H6 := hU ▸ _root_.Z.same_new hlw
    have h6 := (congrFun hU lw).symm
    rw [L2.upd_same] at h6
    clear hU
    walk_at "zz"
    intro ln hln
    generalize hU : L2.upd H6 ln _ = H7
    have S7 : _root_.Z.Same H6 H7 := hU ▸ _root_.Z.same_new hln
    have h7 := (congrFun hU ln).symm
    rw [L2.upd_same] at h7
    clear hU
    walk_at "zz"
    intro u hu
    generalize hU : L2.upd H7 u _ = H8
    have S8 : _root_.Z.Same H7 H8 := hU ▸ _root_.Z.same_new hu
    have h8 := (congrFun hU u).symm
    rw [L2.upd_same] at h8
    clear hU
    have B45 := B4.trans (.left B5)
    have S58 := (S6.trans S7).trans S8
    have nlw : lw ≠ p ∧ lw ≠ lf := ⟨P5.ne hlw, (ne_of_none (B5.rd npf.symm h4) hlw).symm⟩
    have nln : ln ≠ p ∧ ln ≠ lf := ⟨(P5.same S6).ne hln, (ne_of_none (S6 _ _ (B5.rd npf.symm h4)) hln).symm⟩
    refine q (.mk 1 0 [(j : Int)] []) (L - 1) u lw ln H8 (B45.trans (.of S58)) ((P5.same S58).le (by omega)) (S58 _ _ (B5.rd npf.symm h4)) h8 (B45.none nlw.1 nlw.2 hlw) ((B45.trans (.of S6)).none nln.1 nln.2 hln) ?_ (S8 _ _ h7) ⟨by omega, by omega, .inr (.inl ⟨.inl ⟨rfl, rfl⟩, (j : Int), rfl, by omega, by omega⟩), fun x hx => by cases hx⟩ ?_ (by omega) ?_ ?_
    · rw [(S7.trans S8) _ _ h6]
      show _ = some (HO.lst (([bx.getD ((j : Int)).toNat ""] ++ []).map V.str))
      rw [Int.toNat_natCast, getD_of eb]
      rfl
    · intro x hx
      simp only [enc, encs, List.mem_cons, List.append_nil, List.not_mem_nil, or_false] at hx
      rcases hx with z | z
      · rw [z]; decide
      · rw [z]; exact Nat.lt_of_lt_of_le (show ((j : Int)).natAbs < 100 by omega) (by decide)
    · show ((2 : Nat) : Int) ≤ _; omega
    · show ((1 : Nat) : Int) ≤ _; omega
  have k2 : 2 ≤ kd := by omega
  walk_at "zz"
  refine cl_Lwords fun lq H5 S5 _ hq => ?_
  walk_at "zz"
  refine s_ix_l (SqL.of hq) (v := .str (wordK kd)) (by
    rw [show kd + 1 = (((kd + 1).toNat : Nat) : Int) by omega]
    exact atI_nat (by rw [List.getElem?_map, LW_at k2 k1]; rfl)) ?_
  walk_at "zz"
  intro lm hlm
  obtain ⟨m0, em0, m03, mk1, mk2, mk3, mk4⟩ := manyT_at k2 k1
  generalize hU : L2.upd H5 lm _ = H6
  have S6 : _root_.Z.Same H5 H6 := hU ▸ _root_.Z.same_new hlm
  have hm6 := (congrFun hU lm).symm
  rw [L2.upd_same] at hm6
  clear hU
  walk_at "zz"
  refine s_ix_l (SqL.of hm6) (v := .int (m0 : Int)) (by
    rw [show kd - 2 = (((kd - 2).toNat : Nat) : Int) by omega]
    exact atI_nat (by show (manyT.map V.int)[(kd - 2).toNat]? = _; rw [List.getElem?_map, em0]; rfl)) ?_
  walk_at "zz"
  intro lw hlw
  generalize hU : L2.upd H6 lw _ = H7
  have S7 : _root_.Z.Same H6 H7 := hU ▸ _root_.Z.same_new hlw
  have hw7 := (congrFun hU lw).symm
  rw [L2.upd_same] at hw7
  clear hU
  walk_at "zz"
  intro ln hln
  generalize hU : L2.upd H7 ln _ = H8
  have S8 : _root_.Z.Same H7 H8 := hU ▸ _root_.Z.same_new hln
  have hn8 := (congrFun hU ln).symm
  rw [L2.upd_same] at hn8
  clear hU
  have S46 := S5.trans S6
  have S47 := S46.trans S7
  have S48 := S47.trans S8
  have nwp : lw ≠ p := (P4.same S46).ne hlw
  have nnp : ln ≠ p := (P4.same S47).ne hln
  have nwf : lw ≠ lf := (ne_of_none (S46 _ _ h4) hlw).symm
  have nnf : ln ≠ lf := (ne_of_none (S47 _ _ h4) hln).symm
  have nwn : lw ≠ ln := ne_of_none hw7 hln
  have nwh : lw ≠ lh := (ne_of_none (S46 _ _ l4) hlw).symm
  have nnh : ln ≠ lh := (ne_of_none (S47 _ _ l4) hln).symm
  have hlw0 : H lw = none := (B4.trans (.of S46)).none nwp nwf hlw
  have hln0 : H ln = none := (B4.trans (.of S47)).none nnp nnf hln
  have hw8 := S8 _ _ hw7
  have t8 := S48 _ _ t4
  have l8 := S48 _ _ l4
  have h8 := S48 _ _ h4
  have G8 := G4.mono (TupS.of S48)
  have P8 := P4.same S48
  have B8 := B4.trans (.of S48)
  clear hm6 hq hlm S5 S6 S7 S8 S46 S47 S48
  walk_at "zz"
  -- own numbers
  refine s_cut (fun σ' H' => ∃ (x7 : Option V) (ns : List Int), Pl (c + 1) H' p ∧ But2 p lf H H' ∧ H' lf = some (.lst [.int (L - 1)]) ∧ H' lh = some (.lst vs) ∧ HdsG H' hs nm vs ∧ H' tb = some (.tup (bx.map V.str)) ∧
    H' lw = some (.lst ((wordK kd :: (if kd = 2 then [bx.getD (ns.headD 0).toNat ""] else [])).map V.str)) ∧ H' ln = some (.lst ((kd :: ns).map V.int)) ∧ (kd = 2 → ∃ v : Int, ns = [v] ∧ 0 ≤ v ∧ v < bx.length) ∧ (kd ≠ 2 → ns = []) ∧
    σ' = [some (.ref p), some (.ref lh), some (.ref tb), some (.ref lf), some (.int deep), some (.int kd), none, x7, some (.str (wordK kd)), some (.int (m0 : Int)), some (.ref lw), some (.ref ln), none, none, none, none]) ?_ ?_
  · walk_at "zz"
    refine s_ifd (fun e => ?_) (fun e => ?_)
    · have hne : 0 < bx.length := Nat.pos_of_ne_zero fun z => hbe (.inr e) (List.eq_nil_of_length_eq_zero z)
      walk_at "zz"
      rw [List.length_map]
      refine cl_Ldraw ⟨p, (bx.length : Int), c, rfl, rfl, by omega, by omega, by omega, P8, fun a H9 a0 a1 P9 B9 => ?_⟩
      obtain ⟨j, rfl⟩ : ∃ j : Nat, a = (j : Int) := ⟨a.toNat, by omega⟩
      have hj : j < bx.length := by omega
      have eb : bx[j]? = some bx[j] := List.getElem?_eq_getElem hj
      have T9 := P8.tups B9
      have hw9 := B9.rd nwp hw8
      have hn9 := B9.rd nnp hn8
      have t9 := T9 _ _ t8
      walk_at "zz"
      refine s_ixTN (m := j) (SqT.of t9) (v := .str bx[j]) (by rw [List.getElem?_map, eb]; rfl) ?_
      walk_at "zz"
      refine c_append hw9 (by show 1 < sizeLine; decide) fun H10 B10 hw10 => ?_
      walk_at "zz"
      refine c_append (B10.rd nwn.symm hn9) (by show 1 < sizeLine; decide) fun H11 B11 hn11 => ?_
      walk_at "zz"
      have T1 : TupS H9 H11 := (TupS.butL B10 hw9).trans (TupS.butL B11 (B10.rd nwn.symm hn9))
      refine ⟨_, [(j : Int)], (P9.but B10 nwp.symm).but B11 nnp.symm, ((B8.trans (.left B9)).own B10 hlw0).own B11 hln0, B11.rd nnf.symm (B10.rd nwf.symm (B9.rd npf.symm h8)), B11.rd nnh.symm (B10.rd nwh.symm (B9.rd nph.symm l8)), (G8.mono T9).mono T1, T1 _ _ t9, ?_, ?_, fun _ => ⟨(j : Int), rfl, by omega, by omega⟩, fun z => absurd e z, rfl⟩
      · rw [B11.rd nwn hw10, if_pos e]
        show _ = some (HO.lst ([wordK kd, bx.getD ((j : Int)).toNat ""].map V.str))
        rw [Int.toNat_natCast, getD_of eb]
        rfl
      · rw [hn11]; rfl
    · walk_at "zz"
      exact ⟨none, [], P8.le (by omega), B8, h8, l8, G8, t8, by rw [hw8, if_neg e]; rfl, by rw [hn8]; rfl, fun z => absurd z e, fun _ => rfl, rfl⟩
  clear P8 B8 h8 l8 G8 t8 hw8 hn8 hw7
  rintro σ' H9 ⟨x7, ns, P9, B9, h9, l9, G9, t9, hw9, hn9, ns2, nsn, rfl⟩
  refine s_cut (fun σ' H' => ∃ (x7 x12 : Option V) (ns : List Int) (m : Nat), Pl (c + 3) H' p ∧ But2 p lf H H' ∧ H' lf = some (.lst [.int (L - 1)]) ∧ H' lh = some (.lst vs) ∧ HdsG H' hs nm vs ∧ H' tb = some (.tup (bx.map V.str)) ∧
    H' lw = some (.lst ((wordK kd :: (if kd = 2 then [bx.getD (ns.headD 0).toNat ""] else if kd = 3 ∨ kd = 4 then [strI (ns.headD 0)] else [])).map V.str)) ∧ H' ln = some (.lst ((kd :: ns).map V.int)) ∧ (kd = 2 → ∃ v : Int, ns = [v] ∧ 0 ≤ v ∧ v < bx.length) ∧
    (kd = 3 ∨ kd = 4 → ∃ v : Nat, ns = [(v : Int)] ∧ kd - 2 ≤ v ∧ v ≤ 12 ∧ (m : Int) = v + kd - 3) ∧ (¬ (kd = 3 ∨ kd = 4) → m = m0) ∧ (¬ (kd = 2 ∨ kd = 3 ∨ kd = 4) → ns = []) ∧
    σ' = [some (.ref p), some (.ref lh), some (.ref tb), some (.ref lf), some (.int deep), some (.int kd), none, x7, some (.str (wordK kd)), some (.int (m : Int)), some (.ref lw), some (.ref ln), x12, none, none, none]) ?_ ?_
  · walk_at "zz"
    intro ta hta
    generalize hU : L2.upd H9 ta _ = H10
    have S10 : _root_.Z.Same H9 H10 := hU ▸ _root_.Z.same_new hta
    have h10 := (congrFun hU ta).symm
    rw [L2.upd_same] at h10
    clear hU
    refine s_in_t (SqT.of h10) rfl rfl ?_
    have ei : inV (.int kd) [V.int 3, V.int 4] = decide (kd = 3 ∨ kd = 4) := by
      unfold inV
      simp only [List.any_cons, List.any_nil, Bool.or_false]
      show ((3 == kd) || (4 == kd)) = _
      by_cases a : kd = 3
      · subst a; rfl
      · by_cases b : kd = 4
        · subst b; rfl
        · rw [decide_eq_false (by omega), Bool.or_eq_false_iff]
          exact ⟨by simpa using fun z => a z.symm, by simpa using fun z => b z.symm⟩
    rw [ei]
    have P10 := P9.same S10
    have B10 := B9.trans (.of S10)
    have f10 := S10 _ _ h9
    have l10 := S10 _ _ l9
    have G10 := G9.mono (TupS.of S10)
    have t10 := S10 _ _ t9
    have hw10 := S10 _ _ hw9
    have hn10 := S10 _ _ hn9
    clear h10 hta
    walk_at "zz"
    refine s_ifd (fun e => ?_) (fun e => ?_)
    · have n2 : kd ≠ 2 := by omega
      have en := nsn n2
      subst en
      rw [if_neg n2] at hw10
      walk_at "zz"
      intro lq hlq
      generalize hU : L2.upd H10 lq _ = H11
      have S11 : _root_.Z.Same H10 H11 := hU ▸ _root_.Z.same_new hlq
      have hq11 := (congrFun hU lq).symm
      rw [L2.upd_same] at hq11
      clear hU
      have nqp : lq ≠ p := P10.ne hlq
      walk_at "zz"
      refine cl_Ldraw ⟨p, 9, c + 1, rfl, rfl, by decide, by decide, by omega, P10.same S11, fun z H12 z0 z1 P12 B12 => ?_⟩
      walk_at "zz"
      have ej : ∃ (j : Nat) (k : Int), (if decide (z = 0) = true then (1 : Int) else 0) = (j : Int) ∧ [V.int 3, V.int (15 - kd)][j]? = some (.int k) ∧ 3 ≤ k ∧ kd + k ≤ 15 := by
        by_cases c : z = 0
        · rw [decide_eq_true c, if_pos rfl]
          exact ⟨1, 15 - kd, rfl, rfl, by omega, by omega⟩
        · rw [decide_eq_false c, if_neg (by decide)]
          exact ⟨0, 3, rfl, rfl, by omega, by omega⟩
      obtain ⟨j, k, ej, ek, ka, kb⟩ := ej
      rw [ej]
      refine s_ixN (m := j) (SqL.of (B12.rd nqp hq11)) ek ?_
      walk_at "zz"
      refine cl_Ldraw ⟨p, k, c + 1 + 1, rfl, rfl, by omega, by omega, by omega, P12, fun y H13 y0 y1 P13 B13 => ?_⟩
      have B1013 : But p H10 H13 := ((But.of S11).trans B12).trans B13
      have T13 := (TupS.of S11).trans (((P10.same S11).tups B12).trans (P12.tups B13))
      obtain ⟨v, hv⟩ : ∃ v : Nat, kd - 2 + y = (v : Int) := ⟨(kd - 2 + y).toNat, by omega⟩
      have hw13 := B1013.rd nwp hw10
      have hn13 := B1013.rd nnp hn10
      walk_at "zz"
      rw [hv]
      refine s_strI (log_small (Nat.lt_of_lt_of_le (show ((v : Int)).natAbs < 100 by omega) (by decide))) ?_
      walk_at "zz"
      refine c_append hw13 (by show 1 < sizeLine; decide) fun H14 B14 hw14 => ?_
      walk_at "zz"
      refine c_append (B14.rd nwn.symm hn13) (by show 1 < sizeLine; decide) fun H15 B15 hn15 => ?_
      walk_at "zz"
      have T1 : TupS H13 H15 := (TupS.butL B14 hw13).trans (TupS.butL B15 (B14.rd nwn.symm hn13))
      obtain ⟨m, hm⟩ := sh_nn (v := v) e
      refine ⟨_, _, [(v : Int)], m, ((P13.but B14 nwp.symm).but B15 nnp.symm).le (sh_le3 c), ((B10.trans (.left B1013)).own B14 hlw0).own B15 hln0, B15.rd nnf.symm (B14.rd nwf.symm (B1013.rd npf.symm f10)), B15.rd nnh.symm (B14.rd nwh.symm (B1013.rd nph.symm l10)), (G10.mono T13).mono T1, T1 _ _ (T13 _ _ t10), ?_, ?_, fun z => absurd z n2, fun _ => ⟨v, rfl, by omega, by omega, hm.symm⟩, fun z => absurd e z, fun z => absurd (.inr e) z, by rw [hm]; rfl⟩
      · rw [B15.rd nwn hw14, if_neg n2, if_pos e]
        rfl
      · rw [hn15]; rfl
    · walk_at "zz"
      refine ⟨x7, none, ns, m0, P10.le (by omega), B10, f10, l10, G10, t10, ?_, hn10, ns2, fun z => absurd z e, fun _ => rfl, fun z => nsn (by omega), rfl⟩
      rw [hw10]
      by_cases a : kd = 2
      · rw [if_pos a, if_pos a]
      · rw [if_neg a, if_neg a, if_neg e]
  clear P9 B9 h9 l9 G9 t9 hw9 hn9 ns2 nsn ns x7
  rintro σ' H9 ⟨x7, x12, ns, m, P9, B9, h9, l9, G9, t9, hw9, hn9, ns2, ns34, mm0, nsn, rfl⟩
  have eh : ∀ v, headW nm bx kd v = wordK kd :: (if kd = 2 then [bx.getD v.toNat ""] else if kd = 3 ∨ kd = 4 then [strI v] else if kd = 6 then [(nm.getD v.toNat ("", [])).1] else []) := fun v => by
    unfold headW; rw [if_neg c0', if_neg c1']
  refine s_cut (fun σ' H' => ∃ (x7 x12 : Option V) (ns : List Int) (m : Nat), Pl (c + 4) H' p ∧ But2 p lf H H' ∧ H' lf = some (.lst [.int (L - 1)]) ∧ H' lh = some (.lst vs) ∧ HdsG H' hs nm vs ∧ H' tb = some (.tup (bx.map V.str)) ∧
    H' lw = some (.lst ((headW nm bx kd (ns.headD 0)).map V.str)) ∧ H' ln = some (.lst ((kd :: ns).map V.int)) ∧ OwnOK hs (bx.length : Int) kd ns m ∧ m ≤ 13 ∧ ns.length ≤ 1 ∧ (∀ v ∈ ns, v.natAbs < 100) ∧ (kd = 19 → m = 0) ∧
    σ' = [some (.ref p), some (.ref lh), some (.ref tb), some (.ref lf), some (.int deep), some (.int kd), none, x7, some (.str (wordK kd)), some (.int (m : Int)), some (.ref lw), some (.ref ln), x12, none, none, none]) ?_ ?_
  · walk_at "zz"
    refine s_ifd (fun e => ?_) (fun e => ?_)
    · have en := nsn (by omega)
      subst en
      rw [if_neg (by omega), if_neg (by omega)] at hw9
      walk_at "zz"
      rw [G9.len.1]
      refine cl_Ldraw ⟨p, (hs.length : Int), c + 3, rfl, rfl, by omega, by omega, by omega, P9, fun a H10 a0 a1 P10 B10 => ?_⟩
      obtain ⟨j, rfl⟩ : ∃ j : Nat, a = (j : Int) := ⟨a.toNat, by omega⟩
      have hj : j < vs.length := by rw [G9.len.1]; omega
      have T10 := P9.tups B10
      have G10 := G9.mono T10
      have l10 := B10.rd nph.symm l9
      obtain ⟨t1, tb1, hh, nn, ev, ehs, enm, ht1, htb1⟩ := G10.get (List.getElem?_eq_getElem hj)
      have ejv : vs[j]? = some (.ref t1) := by rw [List.getElem?_eq_getElem hj, ev]
      have hw10 := B10.rd nwp hw9
      have hn10 := B10.rd nnp hn9
      obtain ⟨b0, b1, b2, b3⟩ := HOK.2.2 j hh ehs
      obtain ⟨pp, hpp⟩ : ∃ pp : Nat, hh.1 = (pp : Int) := ⟨hh.1.toNat, by omega⟩
      have b4 : pp ≤ 4 := by
        split at b1 <;> omega
      walk_at "zz"
      refine s_ixN (m := j) (SqL.of l10) ejv ?_
      walk_at "zz"
      refine s_ixTN (m := 0) (SqT.of ht1) rfl ?_
      walk_at "zz"
      refine c_append hw10 (by show 1 < sizeLine; decide) fun H11 B11 hw11 => ?_
      walk_at "zz"
      refine c_append (B11.rd nwn.symm hn10) (by show 1 < sizeLine; decide) fun H12 B12 hn12 => ?_
      have T1 : TupS H10 H12 := (TupS.butL B11 hw10).trans (TupS.butL B12 (B11.rd nwn.symm hn10))
      have l12 := B12.rd nnh.symm (B11.rd nwh.symm l10)
      walk_at "zz"
      refine s_ixN (m := j) (SqL.of l12) ejv ?_
      walk_at "zz"
      refine s_ixTN (m := 2) (SqT.of (T1 _ _ ht1)) rfl ?_
      walk_at "zz"
      refine ⟨_, _, [(j : Int)], pp, ((P10.but B11 nwp.symm).but B12 nnp.symm).le (by omega), ((B9.trans (.left B10)).own B11 hlw0).own B12 hln0, B12.rd nnf.symm (B11.rd nwf.symm (B10.rd npf.symm h9)), l12, G10.mono T1, T1 _ _ (T10 _ _ t9), ?_, ?_, .inr (.inr (.inr (.inr (.inl ⟨e, j, hh, rfl, ehs, hpp.symm⟩)))), by omega, Nat.le_refl _, ?_, fun z => by omega, by rw [hpp]; rfl⟩
      · rw [B12.rd nwn hw11, eh, if_neg (by omega), if_neg (by omega), if_pos e]
        show _ = some (HO.lst ([wordK kd, (nm.getD ((j : Int)).toNat ("", [])).1].map V.str))
        rw [Int.toNat_natCast, getD_of enm]
        rfl
      · rw [hn12]; rfl
      · intro v hv
        rw [List.mem_singleton.mp hv]; omega
    · walk_at "zz"
      refine ⟨x7, x12, ns, m, P9.le (by omega), B9, h9, l9, G9, t9, ?_, hn9, ?_, ?_, ?_, ?_, ?_, rfl⟩
      · rw [hw9, eh]
        by_cases a : kd = 2
        · rw [if_pos a, if_pos a]
        · rw [if_neg a, if_neg a]
          by_cases b : kd = 3 ∨ kd = 4
          · rw [if_pos b, if_pos b]
          · rw [if_neg b, if_neg b, if_neg e]
      · by_cases a : kd = 2
        · obtain ⟨v, rfl, v0, v1⟩ := ns2 a
          exact .inr (.inl ⟨.inr ⟨a, by rw [mm0 (by omega)]; exact mk2 a⟩, v, rfl, v0, v1⟩)
        by_cases b : kd = 3 ∨ kd = 4
        · obtain ⟨v, en, v0, v1, v2⟩ := ns34 b
          clear ns34 ns2 nsn mm0 hkd hbe mk1 mk2 mk3 mk4
          subst en
          rcases b with b | b
          · exact .inr (.inr (.inl ⟨b, by rw [sh_m3 v2 b]; exact (sh_v v0).1 b, by rw [sh_m3 v2 b]; exact v1, by rw [sh_m3 v2 b]⟩))
          · exact .inr (.inr (.inr (.inl ⟨b, v, rfl, (sh_v v0).2 b, v1, sh_m4 v2 b⟩)))
        have en := nsn (by omega)
        subst en
        have hm := mm0 b
        by_cases d : kd = 5
        · exact .inr (.inr (.inr (.inr (.inr (.inl ⟨d, by rw [hm]; exact mk3 d, rfl⟩)))))
        · exact .inr (.inr (.inr (.inr (.inr (.inr ⟨sh_7 k2 a b d e, rfl, by rw [hm]; exact mk1 (sh_7 k2 a b d e)⟩)))))
      · by_cases b : kd = 3 ∨ kd = 4
        · obtain ⟨v, _, v0, v1, v2⟩ := ns34 b; omega
        · rw [mm0 b]; omega
      · by_cases a : kd = 2
        · obtain ⟨v, rfl, _⟩ := ns2 a; exact Nat.le_refl _
        by_cases b : kd = 3 ∨ kd = 4
        · obtain ⟨v, rfl, _⟩ := ns34 b; exact Nat.le_refl _
        · rw [nsn (by omega)]; exact Nat.zero_le _
      · intro v hv
        by_cases a : kd = 2
        · obtain ⟨w, rfl, _⟩ := ns2 a
          rw [List.mem_singleton.mp hv]; omega
        by_cases b : kd = 3 ∨ kd = 4
        · obtain ⟨w, rfl, _⟩ := ns34 b
          rw [List.mem_singleton.mp hv]; omega
        · rw [nsn (by omega)] at hv; cases hv
      · intro z
        rw [mm0 (by omega)]; exact mk4 z
  clear P9 B9 h9 l9 G9 t9 hw9 hn9 ns2 ns34 mm0 nsn ns m x7 x12
  rintro σ' H9 ⟨x7, x12, ns, m, P9, B9, h9, l9, G9, t9, hw9, hn9, hO, hm13, hn1, hns, h19, rfl⟩
  walk_at "zz"
  have hpar : ∀ i : Nat, i < m → 2 ≤ L ∧ 1 ≤ f := fun i hi => by
    rcases hkd with (z | z | z) | z
    · exact absurd z c0'
    · exact absurd z c1'
    · have := h19 z; omega
    · exact ⟨z.1, by have := z.2; omega⟩
  refine loop_range (fun i σ' H' => ∃ (ps : List Nd) (M2 : Int) (x13 x14 x15 : Option V), Pl (c0 + 6 + 6 * (L - 1 - M2)) H' p ∧ But2 p lf H H' ∧ H' lf = some (.lst [.int M2]) ∧ H' lh = some (.lst vs) ∧ HdsG H' hs nm vs ∧ H' tb = some (.tup (bx.map V.str)) ∧
    H' lw = some (.lst ((headW nm bx kd (ns.headD 0) ++ wordsNs nm bx ps).map V.str)) ∧ H' ln = some (.lst ((kd :: (ns ++ encs ps)).map V.int)) ∧ ps.length = i ∧ (∀ t ∈ ps, OkN hs (bx.length : Int) f t) ∧ (∀ x ∈ encs ps, x.natAbs < 10 ^ 60) ∧
    M2 ≤ L - 1 ∧ L - 1 - M2 ≤ i + 13 * (lft (L - 1) - lft M2) ∧ ((encs ps).length : Int) ≤ 2 * (L - 1 - M2) ∧ ((wordsNs nm bx ps).length : Int) ≤ 4 * (L - 1 - M2) ∧
    σ' = [some (.ref p), some (.ref lh), some (.ref tb), some (.ref lf), some (.int deep), some (.int kd), none, x7, some (.str (wordK kd)), some (.int (m : Int)), some (.ref lw), some (.ref ln), x12, x13, x14, x15])
    ⟨[], L - 1, none, none, none, P9.le (by omega), B9, h9, l9, G9, t9, by rw [hw9]; simp [wordsNs], by rw [hn9]; simp [encs], rfl, fun t ht => (by cases ht), fun x hx => (by cases hx), by omega, by omega, by show ((0 : Nat) : Int) ≤ _; omega, by show ((0 : Nat) : Int) ≤ _; omega, rfl⟩ ?_ ?_
  · clear P9 B9 h9 l9 G9 t9 hw9 hn9
    rintro i σ' H10 hi ⟨ps, M2, x13, x14, x15, P10, B10, h10, l10, G10, t10, hw10, hn10, hpl, hok, hsm, hL2, hb1, hb2, hb3, rfl⟩
    rw [Int.toNat_natCast] at hi
    obtain ⟨M2', hf⟩ := hpar i hi
    have lb2 := lft_pos M2
    have la2 := lft_le (x := L - 1) (by omega)
    have la3 := lft_le (x := M2) (by omega)
    walk_at "zz"
    refine cl_Lshape ⟨p, lh, tb, lf, vs, hs, nm, bx, M2, deep + 1, c0 + 6 + 6 * (L - 1 - M2), f, rfl, rfl, rfl, rfl, rfl, by omega, hf, by omega, by omega, P10, l10, G10, t10, h10, npf, nph, nfh, HOK, hbx, hbn, by omega, fun t M3 u lw2 ln2 H11 B11 P11 h11 hu hlw2 hln2 hw11 hn11 hok2 hsm2 hd1 hd2 hd3 => ?_⟩
    obtain ⟨xa, xb, xc, _, _, _, hpp⟩ := id P10
    have T11 : TupS H10 H11 := But2.tups B11 hpp (by simp) h10 (by simp)
    have hw10' := B11.rd nwp nwf hw10
    have hn10' := B11.rd nnp nnf hn10
    have lb3 := lft_pos M3
    have nw2 : lw ≠ ln2 := fun z => by rw [z, hln2] at hw10; cases hw10
    walk_at "zz"
    have lhd : (headW nm bx kd (ns.headD 0)).length ≤ 2 := by rw [eh, List.length_cons]; repeat' split
                                                              all_goals simp
    refine c_extend hw10' hw11 (by
      simp only [List.length_map, List.length_append]
      exact Nat.le_of_lt (Nat.lt_of_le_of_lt (show _ ≤ 100000 by omega) (by decide))) fun H12 B12 hw12 => ?_
    walk_at "zz"
    refine c_extend (B12.rd nwn.symm hn10') (B12.rd (fun z => by rw [z, hw10] at hln2; cases hln2) hn11) (by
      simp only [List.length_map, List.length_append, List.length_cons]
      exact Nat.le_of_lt (Nat.lt_of_le_of_lt (show _ ≤ 100000 by omega) (by decide))) fun H13 B13 hn13 => ?_
    have T13 : TupS H11 H13 := (TupS.butL B12 hw10').trans (TupS.butL B13 (B12.rd nwn.symm hn10'))
    walk_at "zz"
    refine ⟨ps ++ [t], M3, _, _, _, ((P11.but B12 nwp.symm).but B13 nnp.symm).le (by omega), ((B10.trans B11).own B12 hlw0).own B13 hln0, B13.rd nnf.symm (B12.rd nwf.symm h11), B13.rd nnh.symm (B12.rd nwh.symm (B11.rd nph.symm nfh.symm l10)), (G10.mono T11).mono T13, T13 _ _ (T11 _ _ t10), ?_, ?_, by simp [hpl], fun t' ht' => ?_, fun x hx => ?_, ?_, ?_, ?_, ?_, rfl⟩
    · rw [B13.rd nwn hw12, wordsNs_app]; simp [wordsNs]
    · rw [hn13, encs_app]; simp [encs]
    · rcases List.mem_append.mp ht' with z | z
      · exact hok t' z
      · rw [List.mem_singleton.mp z]; exact hok2
    · rw [encs_app] at hx
      rcases List.mem_append.mp hx with z | z
      · exact hsm x z
      · exact hsm2 x (by simpa [encs] using z)
    · omega
    · omega
    · rw [encs_app, List.length_append]; simp only [encs, List.append_nil]; omega
    · rw [wordsNs_app, List.length_append]; simp only [wordsNs, List.append_nil]; omega
  · rintro σ' H10 ⟨ps, M2, x13, x14, x15, P10, B10, h10, l10, G10, t10, hw10, hn10, hpl, hok, hsm, hL2, hb1, hb2, hb3, rfl⟩
    rw [Int.toNat_natCast] at hpl hb1
    walk_at "zz"
    intro u hu
    generalize hU : L2.upd H10 u _ = H11
    have S11 : _root_.Z.Same H10 H11 := hU ▸ _root_.Z.same_new hu
    have h11 := (congrFun hU u).symm
    rw [L2.upd_same] at h11
    clear hU
    refine q (.mk kd 0 ns ps) M2 u lw ln H11 (B10.trans (.of S11)) ((P10.same S11).le (by omega)) (S11 _ _ h10) h11 hlw0 hln0 (S11 _ _ hw10) (S11 _ _ hn10) ⟨by omega, k1, by rw [hpl]; exact hO, hok⟩ ?_ ?_ ?_ ?_
    · intro x hx
      rcases List.mem_cons.mp (show x ∈ kd :: (ns ++ encs ps) from hx) with z | z
      · rw [z]; exact Nat.lt_of_lt_of_le (show kd.natAbs < 100 by omega) (by decide)
      rcases List.mem_append.mp z with z | z
      · exact Nat.lt_of_lt_of_le (hns x z) (by decide)
      · exact hsm x z
    · by_cases z : m = 0
      · omega
      · obtain ⟨l2', _⟩ := hpar 0 (by omega)
        have : lft L = lft (L - 1) + 1 := by unfold lft; rw [if_neg (by omega), if_neg (by omega)]; omega
        omega
    · show (((kd :: (ns ++ encs ps)).length : Nat) : Int) ≤ _
      rw [List.length_cons, List.length_append]; omega
    · show (((headW nm bx kd (ns.headD 0) ++ wordsNs nm bx ps).length : Nat) : Int) ≤ _
      have lhd : (headW nm bx kd (ns.headD 0)).length ≤ 2 := by rw [eh, List.length_cons]; repeat' split
                                                                all_goals simp
      rw [List.length_append]; omega

theorem rd_Lprogram {Z : Adr} (T : Top Z) {a0 a1 a2 : V} {H : Hp} {Q : VK} {E : XK} (h : q_Lprogram Z a0 a1 a2 H Q E) : t_Lprogram Z (fun cls d _ H => E cls d H) ⟨fun _ H' => Q .non H', Q, fun _ _ => False, fun _ _ => False⟩ [some a0, some a1, some a2, none, none, none, none, none, none, none, none, none, none, none] H := by
  unfold t_Lprogram
  obtain ⟨p, m, r, n, rfl, rfl, rfl, m1, m16, r1, r100, hn, P, q⟩ := h
  walk_at "zz"
  refine cl_Lheads ⟨p, m, n, rfl, rfl, m1, m16, by omega, P, fun lh vs hs nm H1 B1 P1 hlh0 hlh G1 HOK N hsm => ?_⟩
  have nhp : lh ≠ p := P.ne hlh0
  have lv := G1.len
  have h16 : hs.length ≤ 16 := HOK.2.1
  have h1 : 1 ≤ hs.length := HOK.1
  walk_at "zz"
  -- names
  refine lc_lst vs (fun D i H' => Same H1 H' ∧ ∃ us, H' D = some (.lst us) ∧ NamesAt H' (nm.take i) us) (fun D hD => ⟨same_new hD, [], upd_same, rfl⟩) (fun D i H' hD hi ⟨S, _⟩ => SqL.of (S _ _ hlh)) ?_ ?_
  · rintro D i v H2 hD hv ⟨S2, us, hd, hN⟩
    obtain ⟨t, tb, hh, nn, rfl, eh, en, ht, htb⟩ := G1.get hv
    refine s_gun_t (SqT.of (S2 _ _ ht)) rfl ?_
    walk_at "zz"
    intro t2 ht2
    generalize hU : L2.upd H2 t2 _ = H3
    have S3 : _root_.Z.Same H2 H3 := hU ▸ _root_.Z.same_new ht2
    have h3 := (congrFun hU t2).symm
    rw [L2.upd_same] at h3
    clear hU
    refine c_acc (S3 _ _ hd) (by rw [hN.len, List.length_take]; exact Nat.lt_of_le_of_lt (show _ ≤ 16 by omega) (by decide)) fun H4 B4 h4 => ?_
    have T4 : TupS H3 H4 := TupS.butL B4 (S3 _ _ hd)
    refine ⟨same_own (S2.trans S3) B4 hD, _, h4, ?_⟩
    have hi := (List.getElem?_eq_some_iff.mp en).1
    rw [List.take_succ_eq_append_getElem hi, (List.getElem?_eq_some_iff.mp en).2]
    exact ((hN.mono (TupS.of S3)).mono T4).app (T4 _ _ h3) (T4 _ _ ((S2.trans S3) _ _ htb))
  rintro D H2 hD ⟨S2, us, hd, hN⟩
  rw [lv.1, ← lv.2, List.take_length] at hN
  walk_at "zz"
  intro tn htn
  generalize hU : L2.upd H2 tn _ = H3
  have S3 : _root_.Z.Same H2 H3 := hU ▸ _root_.Z.same_new htn
  have h3 := (congrFun hU tn).symm
  rw [L2.upd_same] at h3
  clear hU
  have N3 := hN.mono (TupS.of S3)
  have S13 := S2.trans S3
  have hh3 := S13 _ _ hlh
  have G3 := G1.mono (TupS.of S13)
  have P3 := P1.same S13
  have B3 : But p H H3 := B1.trans (.of S13)
  clear hN S2 hd hD S3 htn S13
  walk_at "zz"
  intro ls hls
  generalize hU : L2.upd H3 ls _ = H4
  have S4 : _root_.Z.Same H3 H4 := hU ▸ _root_.Z.same_new hls
  have h4 := (congrFun hU ls).symm
  rw [L2.upd_same] at h4
  clear hU
  have nsp : ls ≠ p := P3.ne hls
  have nsh : ls ≠ lh := (ne_of_none hh3 hls).symm
  have hls0 : H ls = none := B3.none nsp hls
  walk_at "zz"
  refine loop_list vs (fun i σ' H' => ∃ (x4 x5 x6 : Option V), But ls H4 H' ∧ H' ls = some (.lst (((hs.length : Int) :: flat (hs.take i)).map V.int)) ∧ σ' = [some (.ref p), some (.int m), some (.int r), some (.ref lh), x4, x5, x6, some (.ref tn), some (.ref ls), none, none, none, none, none])
    ⟨_, _, _, But.refl ls H4, by rw [h4, lv.1]; rfl, rfl⟩ (fun i σ' H' hi ⟨_, _, _, B, _⟩ => SqL.of (B.rd nsh.symm (S4 _ _ hh3))) ?_ ?_
  · rintro i v σ' H5 hv ⟨x4, x5, x6, B5, h5, rfl⟩
    have T5 : TupS H4 H5 := TupS.butL B5 h4
    have G5 := (G3.mono (TupS.of S4)).mono T5
    obtain ⟨t, tb, hh, nn, rfl, eh, en, ht, htb⟩ := G5.get hv
    refine s_gun_t (SqT.of ht) rfl ?_
    walk_at "zz"
    intro l6 hl6
    generalize hU : L2.upd H5 l6 _ = H6
    have S6 : _root_.Z.Same H5 H6 := hU ▸ _root_.Z.same_new hl6
    have h6 := (congrFun hU l6).symm
    rw [L2.upd_same] at h6
    clear hU
    walk_at "zz"
    refine c_extend (S6 _ _ h5) h6 (by
      rw [List.length_map, List.length_cons, flat_len, List.length_take]
      simp only [List.length_cons, List.length_nil]
      exact Nat.le_trans (show _ ≤ 100 by have := Nat.min_le_right i hs.length; omega) (by decide)) fun H7 B7 h7 => ?_
    walk_at "zz"
    refine ⟨_, _, _, (B5.trans (.of S6)).trans B7, ?_, rfl⟩
    rw [h7, flat_take eh, List.length_map, N.b i nn hh en eh]
    simp
  rintro σ' H5 ⟨x4, x5, x6, B5, h5, rfl⟩
  rw [lv.1, List.take_length] at h5
  have T5 : TupS H4 H5 := TupS.butL B5 h4
  have G5 := (G3.mono (TupS.of S4)).mono T5
  have P5 := (P3.same S4).but B5 nsp.symm
  have N5 := (N3.mono (TupS.of S4)).mono T5
  have h35 := T5 _ _ (S4 _ _ h3)
  have hh5 := B5.rd nsh.symm (S4 _ _ hh3)
  have B05 : But p H H5 := (B3.trans (.of S4)).own B5 hls0
  clear T5 G3 P3 N3 h3 hh3 B3 S4 h4 hls B5
  walk_at "zz"
  intro ll hll
  generalize hU : L2.upd H5 ll _ = H6
  have S6 : _root_.Z.Same H5 H6 := hU ▸ _root_.Z.same_new hll
  have h6 := (congrFun hU ll).symm
  rw [L2.upd_same] at h6
  clear hU
  have nlp : ll ≠ p := P5.ne hll
  have nls : ll ≠ ls := (ne_of_none h5 hll).symm
  have nlh : ll ≠ lh := (ne_of_none hh5 hll).symm
  have hll0 : H ll = none := B05.none nlp hll
  walk_at "zz"
  refine loop_list vs (fun i σ' H' => ∃ (bs : List Nd) (us : List V) (x4 x5 x6 x10 x11 x12 x13 : Option V), Pl (n + 4000 + 7900 * i) H' p ∧ But p H H' ∧ H' tn = some (.tup _) ∧ NamesAt H' nm _ ∧ H' lh = some (.lst vs) ∧ HdsG H' hs nm vs ∧ H' ls = some (.lst (((hs.length : Int) :: (flat hs ++ encs bs)).map V.int)) ∧ H' ll = some (.lst us) ∧ LinesG H' (lineW nm (hs.take i) (nm.take i) bs) us ∧ bs.length = i ∧
    (∀ (j : Nat) (h : Int × Int) (b : Nd), hs[j]? = some h → bs[j]? = some b → OkN hs h.2 10 b) ∧ (∀ b ∈ bs, ∀ x ∈ enc b, x.natAbs < 10 ^ 60) ∧ ((encs bs).length : Int) ≤ i * (2 + 26 * r) ∧
    σ' = [some (.ref p), some (.int m), some (.int r), some (.ref lh), x4, x5, x6, some (.ref tn), some (.ref ls), some (.ref ll), x10, x11, x12, x13])
    ⟨[], [], _, _, _, none, none, none, none, (P5.same S6).le (by omega), B05.trans (.of S6), S6 _ _ h35, N5.mono (TupS.of S6), S6 _ _ hh5, G5.mono (TupS.of S6), by rw [S6 _ _ h5]; simp [encs], h6, rfl, rfl, fun j h b _ e => (by simp at e), fun b hb => (by cases hb), by simp [encs], rfl⟩ (fun i σ' H' hi ⟨_, _, _, _, _, _, _, _, _, _, _, _, _, hlh, _⟩ => SqL.of hlh) ?_ ?_
  · clear P5 B05 h35 N5 hh5 G5 h5 hll S6 h6 x4 x5 x6
    rintro i v σ' H7 hv ⟨bs, us, x4, x5, x6, x10, x11, x12, x13, P7, B7, h7, N7, hh7, G7, hs7, hl7, Ls7, bl, ok, sm, el, rfl⟩
    have hi : i < hs.length := by have := (List.getElem?_eq_some_iff.mp hv).1; rwa [lv.1] at this
    obtain ⟨t, tb, hh, nn, rfl, eh, en, ht, htb⟩ := G7.get hv
    refine s_gun_t (SqT.of ht) rfl ?_
    walk_at "zz"
    intro lf hlf
    generalize hU : L2.upd H7 lf _ = H8
    have S8 : _root_.Z.Same H7 H8 := hU ▸ _root_.Z.same_new hlf
    have h8 := (congrFun hU lf).symm
    rw [L2.upd_same] at h8
    clear hU
    walk_at "zz"
    have P8 := P7.same S8
    have nfp : lf ≠ p := P7.ne hlf
    have nfh : lf ≠ lh := (ne_of_none hh7 hlf).symm
    have nfs : lf ≠ ls := (ne_of_none hs7 hlf).symm
    have nfl : lf ≠ ll := (ne_of_none hl7 hlf).symm
    obtain ⟨n1, n2, n3⟩ := N.n _ (List.mem_of_getElem? en)
    obtain ⟨c0, c1, c2, c3⟩ := HOK.2.2 i hh eh
    have nb := N.b i nn hh en eh
    refine cl_Lshape ⟨p, lh, tb, lf, vs, hs, nm, nn.2, r, 1, n + 4000 + 7900 * i, 10, rfl, rfl, rfl, rfl, rfl, by decide, by decide, by decide, by omega, P8, S8 _ _ hh7, G7.mono (TupS.of S8), S8 _ _ htb, h8, nfp.symm, nhp.symm, nfh, HOK, by omega, n2, r100, fun b M u lw ln H9 B9 P9 h9 hu hlw0 hln0 hw9 hn9 okb smb d1 d2 d3 => ?_⟩
    obtain ⟨xa, xb, xc, _, _, _, hpp⟩ := id P8
    have T9 : TupS H8 H9 := But2.tups B9 hpp (by simp) h8 (by simp)
    have B79 : But p H H9 := ((But2.left (q := lf) (B7.trans (.of S8))).trans B9).one (B7.none nfp hlf)
    have lM := lft_pos M
    have lr : lft r = r := by unfold lft; rw [if_neg (by omega)]
    have rb : r - M ≤ 1 + 13 * (r - 1) := by omega
    have nwp : lw ≠ ls := (ne_of_none (S8 _ _ hs7) hlw0).symm
    have nwl : lw ≠ ll := (ne_of_none (S8 _ _ hl7) hlw0).symm
    have nnl : ln ≠ ll := (ne_of_none (S8 _ _ hl7) hln0).symm
    have nns : ln ≠ ls := (ne_of_none (S8 _ _ hs7) hln0).symm
    have lne : ∀ l ∈ lineW nm (hs.take i) (nm.take i) bs, l ≠ [] := lineW_ne
    have Ls9 := (Ls7.same S8).far2 hpp (by simp) h8 (by simp) B9 lne
    have hs9 := B9.rd nsp nfs.symm (S8 _ _ hs7)
    have hl9 := B9.rd nlp nfl.symm (S8 _ _ hl7)
    have hh9 := B9.rd nhp nfh.symm (S8 _ _ hh7)
    have T79 := (TupS.of S8).trans T9
    have tn9 := T79 _ _ h7
    have N9 := N7.mono T79
    have G9 := G7.mono T79
    have tb9 := T79 _ _ htb
    clear B9 T9 hpp
    obtain ⟨w, bx⟩ := nn
    obtain ⟨pj, mb⟩ := hh
    obtain ⟨j, rfl⟩ : ∃ j : Nat, pj = (j : Int) := ⟨pj.toNat, by dsimp only at c0; omega⟩
    have big : 10000000 ≤ sizeLine := by decide
    have lb12 : bx.length ≤ 12 := by dsimp only at nb c3; omega
    have fl : (funW nm ((j : Int), mb) (w, bx) b) = ("fun" : Str) :: w :: (bx.take j ++ ("with" : Str) :: (bx.drop j ++ ("is" : Str) :: wordsN nm bx b)) := rfl
    have tk : (bx.take j).length ≤ 12 := by rw [List.length_take]; omega
    have dk : (bx.drop j).length ≤ 12 := by rw [List.length_drop]; omega
    have wl : (wordsN nm bx b).length ≤ 100000 := by dsimp only at d3; omega
    walk_at "zz"
    intro la hla
    generalize hU : L2.upd H9 la _ = H10
    have S10 : _root_.Z.Same H9 H10 := hU ▸ _root_.Z.same_new hla
    have hla10 := (congrFun hU la).symm
    rw [L2.upd_same] at hla10
    clear hU
    walk_at "zz"
    refine s_cutTU (same_sqT S10 (SqT.of tb9)) fun p1 H11 S11 hp1 => ?_
    rw [cut_takeS] at hp1
    have hla11 := S11 _ _ hla10
    walk_at "zz"
    intro lb hlb
    generalize hU : L2.upd H11 lb _ = H12
    have S12 : _root_.Z.Same H11 H12 := hU ▸ _root_.Z.same_new hlb
    have hlb12 := (congrFun hU lb).symm
    rw [L2.upd_same] at hlb12
    clear hU
    refine s_add_S (S12 _ _ hla11) hlb12 (by simp only [List.length_map, List.length_cons, List.length_nil]; omega) fun lc H13 S13 _ hlc13 => ?_
    walk_at "zz"
    intro ld hld
    generalize hU : L2.upd H13 ld _ = H14
    have S14 : _root_.Z.Same H13 H14 := hU ▸ _root_.Z.same_new hld
    have hld14 := (congrFun hU ld).symm
    rw [L2.upd_same] at hld14
    clear hU
    refine s_add_S (S14 _ _ hlc13) hld14 (by simp only [List.length_append, List.length_map, List.length_cons, List.length_nil]; omega) fun le H15 S15 _ hle15 => ?_
    have S915 := ((((S10.trans S11).trans S12).trans S13).trans S14).trans S15
    walk_at "zz"
    refine s_cutTU (same_sqT S915 (SqT.of tb9)) fun p2 H16 S16 hp2 => ?_
    rw [cut_dropS] at hp2
    have hle16 := S16 _ _ hle15
    walk_at "zz"
    intro lg hlg
    generalize hU : L2.upd H16 lg _ = H17
    have S17 : _root_.Z.Same H16 H17 := hU ▸ _root_.Z.same_new hlg
    have hlg17 := (congrFun hU lg).symm
    rw [L2.upd_same] at hlg17
    clear hU
    refine s_add_S (S17 _ _ hle16) hlg17 (by simp only [List.length_append, List.length_map, List.length_cons, List.length_nil]; omega) fun lk H18 S18 _ hlk18 => ?_
    walk_at "zz"
    intro li hli
    generalize hU : L2.upd H18 li _ = H19
    have S19 : _root_.Z.Same H18 H19 := hU ▸ _root_.Z.same_new hli
    have hli19 := (congrFun hU li).symm
    rw [L2.upd_same] at hli19
    clear hU
    refine s_add_S (S19 _ _ hlk18) hli19 (by simp only [List.length_append, List.length_map, List.length_cons, List.length_nil]; omega) fun lj H20 S20 _ hlj20 => ?_
    have S920 := ((((S915.trans S16).trans S17).trans S18).trans S19).trans S20
    have hl20 := S920 _ _ hl9
    walk_at "zz"
    refine s_add_S hlj20 (S920 _ _ hw9) (by simp only [List.length_append, List.length_map, List.length_cons, List.length_nil]; omega) fun lx H21 S21 hlx0 hlx21 => ?_
    have e21 : H21 lx = some (.lst ((funW nm ((j : Int), mb) (w, bx) b).map V.str)) := by
      rw [hlx21, fl]; simp
    have S921 := S920.trans S21
    have hl21 := S921 _ _ hl9
    have Ls21 := Ls9.same S921
    have lw16 := lineW_len (all := nm) (hs := hs.take i) (ns := nm.take i) (bs := bs)
    walk_at "zz"
    refine c_append hl21 (by rw [Ls9.len]; exact Nat.lt_of_le_of_lt (show _ ≤ 100 by omega) (by decide)) fun H22 B22 h22 => ?_
    have T22 : TupS H9 H22 := (TupS.of S921).trans (TupS.butL B22 hl21)
    have hs22 := B22.rd nls.symm (S921 _ _ hs9)
    have nxl : lx ≠ ll := (ne_of_none hl20 hlx0).symm
    have Ls22 := Ls21.far hl21 Ls9.refs B22 lne
    walk_at "zz"
    have eb2 : ((enc b).length : Int) ≤ 2 + 26 * r := by omega
    have er : (i : Int) * (2 + 26 * r) ≤ 16 * (2 + 26 * r) := Int.mul_le_mul_of_nonneg_right (by omega) (by omega)
    refine c_extend hs22 (B22.rd nnl (S921 _ _ hn9)) (by
      simp only [List.length_map, List.length_append, List.length_cons, flat_len]
      exact Nat.le_trans (show _ ≤ 1000000 by omega) (by decide)) fun H23 B23 h23 => ?_
    have T23 : TupS H9 H23 := T22.trans (TupS.butL B23 hs22)
    walk_at "zz"
    have e1 : hs[i]? = some ((j : Int), mb) := eh
    have hin : i < nm.length := by rw [N.l]; exact hi
    have enx : nm[i] = (w, bx) := by rw [List.getElem?_eq_getElem hin] at en; exact Option.some.inj en
    have ehx : hs[i] = ((j : Int), mb) := by rw [List.getElem?_eq_getElem hi] at eh; exact Option.some.inj eh
    refine ⟨bs ++ [b], us ++ [.ref lx], _, _, _, _, _, _, _, (((P9.same S921).but B22 nlp.symm).but B23 nsp.symm).le (by omega), ((B79.trans (.of S921)).own B22 hll0).own B23 hls0, T23 _ _ tn9, N9.mono T23, B23.rd nsh.symm (B22.rd nlh.symm (S921 _ _ hh9)), G9.mono T23, ?_, B23.rd nls h22, ?_, by simp [bl], fun k h' b' ek ebk => ?_, fun b' hb' => ?_, ?_, rfl⟩
    · rw [h23, encs_app]; simp [encs]
    · rw [List.take_succ_eq_append_getElem hi, List.take_succ_eq_append_getElem hin, enx, ehx, lineW_snoc (Al.of (by rw [List.length_take, List.length_take, N.l]) (by rw [bl, List.length_take]; omega))]
      refine LinesG.far hs22 (by simp) B23 (fun l hl => ?_) (LinesG.app (B22.rd nxl e21) Ls22)
      rcases List.mem_append.mp hl with z | z
      · exact lne l z
      · rw [List.mem_singleton.mp z]; show (_ :: _) ≠ []; simp
    · by_cases z : k < bs.length
      · rw [List.getElem?_append_left z] at ebk
        exact ok k h' b' ek ebk
      · rw [List.getElem?_append_right (by omega)] at ebk
        have hk := (List.getElem?_eq_some_iff.mp ebk).1
        simp at hk
        have ekk : k = i := by omega
        subst ekk
        rw [bl, Nat.sub_self] at ebk
        cases ebk
        rw [e1] at ek
        cases ek
        rw [nb] at okb
        exact okb
    · rcases List.mem_append.mp hb' with z | z
      · exact sm b' z
      · rw [List.mem_singleton.mp z]; exact smb
    · rw [encs_app, List.length_append]
      simp only [encs, List.append_nil]
      have : (((i + 1 : Nat) : Int)) * (2 + 26 * r) = i * (2 + 26 * r) + (2 + 26 * r) := by
        rw [Int.natCast_succ, Int.add_mul, Int.one_mul]
      omega
  · rintro σ' H7 ⟨bs, us, x4, x5, x6, x10, x11, x12, x13, P7, B7, h7, N7, hh7, G7, hs7, hl7, Ls7, bl, ok, sm, el, rfl⟩
    rw [lv.1] at bl el P7 Ls7
    rw [← lv.2, List.take_length, lv.2, List.take_length] at Ls7
    walk_at "zz"
    intro u hu
    generalize hU : L2.upd H7 u _ = H8
    have S8 : _root_.Z.Same H7 H8 := hU ▸ _root_.Z.same_new hu
    have h8 := (congrFun hU u).symm
    rw [L2.upd_same] at h8
    clear hU
    exact q nm hs bs u tn ls ll _ us H8 (B7.trans (.of S8)) ((P7.same S8).le (by omega)) h8 (S8 _ _ h7) (N7.mono (TupS.of S8)) hls0 (S8 _ _ hs7) hll0 (S8 _ _ hl7) (Ls7.same S8) ⟨N, HOK, bl, ok, sm⟩ hsm el

theorem rd_Lright {Z : Adr} (T : Top Z) {a0 a1 : V} {H : Hp} {Q : VK} {E : XK} (h : q_Lright Z a0 a1 H Q E) : t_Lright Z (fun cls d _ H => E cls d H) ⟨fun _ H' => Q .non H', Q, fun _ _ => False, fun _ _ => False⟩ [some a0, some a1] H := by
  unfold t_Lright
  obtain ⟨p, d, i, rfl, rfl, kp, q⟩ := h
  walk_at "zz"
  refine s_isKo kp T.kx_NoText T.ki_NoText_NoText ?_
  walk_at "zz"
  refine s_isKv kp T.kx_NoText T.kv_NoText ?_
  walk_at "zz"
  intro tq htq
  have Sq := same_new (o := .tup [.ref Z.c_NoCode, .ref Z.c_NoName, .ref Z.c_NoRow, .ref Z.c_NoSheet]) htq
  refine s_isKt (kp.same Sq) T.kx_NoText upd_same (.cons (.own _) (.cons (.own _) (.cons (.own _) (.cons (.own _) .nil)))) (kitAny_no T.ki_NoText_NoCode (kitAny_no T.ki_NoText_NoName (kitAny_no T.ki_NoText_NoRow (kitAny_no T.ki_NoText_NoSheet kitAny_nil)))) ?_
  have kp := kp.same Sq
  generalize upd H tq _ = H3 at *
  walk_at "zz"
  refine s_kf ?_
  walk_at "zz"
  refine s_zkf kp T.xf_NoText T.na_NoText_at (v := .int (i : Int)) lk_eq ?_
  walk_at "zz"
  refine s_kf ?_
  walk_at "zz"
  refine s_zkf kp T.xf_NoText T.na_NoText_at (v := .int (i : Int)) lk_eq ?_
  walk_at "zz"
  refine s_kf ?_
  walk_at "zz"
  refine s_zkf kp T.xf_NoText T.na_NoText_at (v := .int (i : Int)) lk_eq ?_
  walk_at "zz"
  rw [decide_eq_true rfl]
  exact q _ Sq

theorem rd_Lcaught {Z : Adr} (T : Top Z) {a0 : V} {H : Hp} {Q : VK} {E : XK} (h : q_Lcaught Z a0 H Q E) : t_Lcaught Z (fun cls d _ H => E cls d H) ⟨fun _ H' => Q .non H', Q, fun _ _ => False, fun _ _ => False⟩ [some a0, none, none] H := by
  unfold t_Lcaught
  obtain ⟨TT, h⟩ := h
  walk_at "zz"
  refine s_tryKeep ?_
  walk_at "zz"
  rcases h with ⟨i, hr, q⟩ | ⟨t, r, rfl, hf, er, q⟩
  · have yes : ∀ d H1, Same H H1 → XtAt H1 d i → ∀ a, H1 a = none → Q (.ref a) (upd H1 a (kxo a (.ref Z.c_NoText) (some d))) := fun d H1 S1 x a ha => q a d _ (S1.trans (same_new ha)) (Kept.of ha x)
    rcases hr with ⟨n, rfl⟩ | ⟨t, rfl, hf, er⟩
    · refine cl_read_text (.inl ⟨n, fun d H1 S1 x => ⟨true, T.ex_NoText_ChainError, fun _ a ha => ?_, fun z => by cases z⟩⟩)
      walk_at "zz"
      intro _
      walk_at "zz"
      exact yes d H1 S1 x a ha
    · refine cl_read_text (.inr ⟨t, rfl, hf.1, hf.2, TT, fun r z => (by rw [er] at z; cases z), fun e z d H1 S1 x => ⟨true, T.ex_NoText_ChainError, fun _ a ha => ?_, fun z => by cases z⟩⟩)
      rw [er] at z
      cases z
      walk_at "zz"
      intro _
      walk_at "zz"
      exact yes d H1 S1 x a ha
  · refine cl_read_text (.inr ⟨t, rfl, hf.1, hf.2, TT, fun r' z u tn ls vs H1 S1 _ _ _ _ _ => ?_, fun e z => (by rw [er] at z; cases z)⟩)
    walk_at "zz"
    exact q _ S1

theorem rd_Lbad_names {Z : Adr} (T : Top Z) {H : Hp} {Q : VK} {E : XK} (h : q_Lbad_names Z  H Q E) : t_Lbad_names Z (fun cls d _ H => E cls d H) ⟨fun _ H' => Q .non H', Q, fun _ _ => False, fun _ _ => False⟩ [] H := by
  unfold t_Lbad_names
  walk_at "zz"
  intro l hl
  exact h l _ (same_new hl) hl upd_same

theorem rd_Lbad_heads {Z : Adr} (T : Top Z) {a0 a1 a2 : V} {H : Hp} {Q : VK} {E : XK} (h : q_Lbad_heads Z a0 a1 a2 H Q E) : t_Lbad_heads Z (fun cls d _ H => E cls d H) ⟨fun _ H' => Q .non H', Q, fun _ _ => False, fun _ _ => False⟩ [some a0, some a1, some a2, none, none, none, none, none, none, none] H := by
  unfold t_Lbad_heads
  obtain ⟨p, tn, vs, nm, hs, k, n, rfl, rfl, rfl, htn, N, NM, hk, h4, P, hn, q⟩ := h
  have lv := N.len
  obtain ⟨⟨w0, bx⟩, nk⟩ : ∃ x, nm[k]? = some x := ⟨_, List.getElem?_eq_getElem hk⟩
  obtain ⟨pa, pb, pc, _, _, _, hpp⟩ := id P
  have tups : ∀ {H' : Hp}, But p H H' → TupS H H' := fun B => TupS.but B hpp (by simp)
  have ntn : tn ≠ p := P.nt htn
  have fin : ∀ (H' : Hp) (t l : Addr) (bad : List Str) (x : Nat), But p H H' → Pl (n + 5) H' p → H' l = some (.lst (bad.map V.str)) → H' t = some (.tup [.ref l, .int (x : Int)]) → BadH nm k bad x → Q (.ref t) H' := fun H' t l bad x B P hl ht b => q t l bad x H' B P ht hl b
  walk_at "zz"
  refine cl_Lbad_names fun lb H1 S1 hlb0 hlb => ?_
  walk_at "zz"
  refine cl_Ldraw ⟨p, 12, n, rfl, rfl, by decide, by decide, by omega, P.same S1, fun v H2 v0 v1 P2 B2 => ?_⟩
  have nlb : lb ≠ p := P.ne hlb0
  have hlb2 := B2.rd nlb hlb
  have B02 : But p H H2 := (But.of S1).trans B2
  walk_at "zz"
  obtain ⟨j, rfl⟩ : ∃ j : Nat, v = (j : Int) := ⟨v.toNat, by omega⟩
  obtain ⟨w, hw⟩ : ∃ w, BN[j]? = some w := ⟨_, List.getElem?_eq_getElem (show j < BN.length by show j < 12; omega)⟩
  have wB := List.mem_of_getElem? hw
  refine s_ixN (m := j) (SqL.of hlb2) (v := .str w) (by rw [List.getElem?_map, hw]; rfl) ?_
  walk_at "zz"
  obtain ⟨v1, hv1⟩ : ∃ x, vs[k]? = some x := ⟨_, List.getElem?_eq_getElem (by omega)⟩
  obtain ⟨w', bx', t1, tb1, en, rfl, ht1, htb1⟩ := N.get hv1
  rw [nk] at en
  cases en
  refine s_ixTN (m := k) (SqT.of (tups B02 _ _ htn)) hv1 ?_
  walk_at "zz"
  refine s_gun_t (SqT.of (tups B02 _ _ ht1)) rfl ?_
  walk_at "zz"
  refine cl_Ldraw ⟨p, 7, n + 1, rfl, rfl, by decide, by decide, by omega, P2, fun u H3 u0 u1 P3 B3 => ?_⟩
  have B03 : But p H H3 := B02.trans B3
  walk_at "zz"
  intro ls hls
  generalize hU : L2.upd H3 ls _ = H4
  have S4 : _root_.Z.Same H3 H4 := hU ▸ _root_.Z.same_new hls
  have h4s := (congrFun hU ls).symm
  rw [L2.upd_same] at h4s
  clear hU
  have P4 := P3.same S4
  have B04 := B03.trans (.of S4)
  walk_at "zz"
  refine s_ifd (fun c => ?_) (fun c0 => ?_)
  · walk_at "zz"
    intro l hl
    generalize hU : L2.upd H4 l _ = H5
    have S5 : _root_.Z.Same H4 H5 := hU ▸ _root_.Z.same_new hl
    have h5 := (congrFun hU l).symm
    rw [L2.upd_same] at h5
    clear hU
    walk_at "zz"
    intro t ht
    generalize hU : L2.upd H5 t _ = H6
    have S6 : _root_.Z.Same H5 H6 := hU ▸ _root_.Z.same_new ht
    have h6 := (congrFun hU t).symm
    rw [L2.upd_same] at h6
    clear hU
    walk_at "zz"
    exact fin _ t l ["func", w0, "with", "is"] 0 ((B04.trans (.of S5)).trans (.of S6)) (((P4.same S5).same S6).le (by omega)) (S6 _ _ h5) h6 (badH0 NM nk h4)
  walk_at "zz"
  refine s_ifd (fun c => ?_) (fun c1 => ?_)
  · walk_at "zz"
    obtain ⟨⟨wf, bf⟩, n0⟩ : ∃ x, nm[0]? = some x := ⟨_, List.getElem?_eq_getElem (by omega)⟩
    obtain ⟨v2, hv2⟩ : ∃ x, vs[0]? = some x := ⟨_, List.getElem?_eq_getElem (by omega)⟩
    obtain ⟨w2, bx2, t2, tb2, en2, rfl, ht2, htb2⟩ := N.get hv2
    rw [n0] at en2
    cases en2
    refine s_ixTN (m := 0) (SqT.of (tups B04 _ _ htn)) hv2 ?_
    walk_at "zz"
    refine s_ixTN (m := 0) (SqT.of (tups B04 _ _ ht2)) rfl ?_
    walk_at "zz"
    intro l2 hl2
    have nl2 : l2 ≠ p := P4.ne hl2
    generalize hU : L2.upd H4 l2 _ = H5
    have S5 : _root_.Z.Same H4 H5 := hU ▸ _root_.Z.same_new hl2
    have h5 := (congrFun hU l2).symm
    rw [L2.upd_same] at h5
    clear hU
    walk_at "zz"
    refine cl_Ldraw ⟨p, 2, n + 2, rfl, rfl, by decide, by decide, by omega, (P4.same S5).le (by omega), fun u2 H6 x0 x1 P6 B6 => ?_⟩
    walk_at "zz"
    have B06 := (B04.trans (.of S5)).trans B6
    have h56 := B6.rd nl2 h5
    obtain ⟨z, ez, hz⟩ : ∃ z : Str, (∃ m : Nat, (if decide ((0 : Int) < (k : Int)) = true then 1 else 0 : Int) * u2 = (m : Int) ∧ [V.str w, V.str wf][m]? = some (.str z)) ∧ (z ∈ BN ∨ (0 < k ∧ ∃ n, nm[0]? = some n ∧ z = n.1)) := by
      by_cases k0 : 0 < k
      · rw [decide_eq_true (by omega), if_pos rfl]
        rcases (by omega : u2 = 0 ∨ u2 = 1) with e | e
        · subst e; exact ⟨w, ⟨0, rfl, rfl⟩, .inl wB⟩
        · subst e; exact ⟨wf, ⟨1, rfl, rfl⟩, .inr ⟨k0, _, n0, rfl⟩⟩
      · rw [decide_eq_false (by omega), if_neg (by decide)]
        exact ⟨w, ⟨0, by omega, rfl⟩, .inl wB⟩
    obtain ⟨m, em, hm⟩ := ez
    rw [em]
    refine s_ixN (m := m) (SqL.of h56) hm ?_
    walk_at "zz"
    intro l hl
    generalize hU : L2.upd H6 l _ = H7
    have S7 : _root_.Z.Same H6 H7 := hU ▸ _root_.Z.same_new hl
    have h7 := (congrFun hU l).symm
    rw [L2.upd_same] at h7
    clear hU
    walk_at "zz"
    intro t ht
    generalize hU : L2.upd H7 t _ = H8
    have S8 : _root_.Z.Same H7 H8 := hU ▸ _root_.Z.same_new ht
    have h8 := (congrFun hU t).symm
    rw [L2.upd_same] at h8
    clear hU
    walk_at "zz"
    exact fin _ t l ["fun", z, "with", "is"] 1 ((B06.trans (.of S7)).trans (.of S8)) (((P6.same S7).same S8).le (by omega)) (S8 _ _ h7) h8 (badH1 NM hk h4 hz)
  walk_at "zz"
  by_cases c2 : u = 2
  · refine s_ifdt c2 ?_
    walk_at "zz"
    refine s_ifd (fun ck => ?_) (fun ck => ?_)
    · walk_at "zz"
      intro l2 hl2
      generalize hU : L2.upd H4 l2 _ = H5
      have S5 : _root_.Z.Same H4 H5 := hU ▸ _root_.Z.same_new hl2
      have h5 := (congrFun hU l2).symm
      rw [L2.upd_same] at h5
      clear hU
      walk_at "zz"
      refine s_add_S (S5 _ _ h4s) h5 (Nat.le_of_lt (Nat.lt_of_le_of_lt (show _ ≤ 100 by simp) (by decide))) fun l H6 S6 hl0 h6 => ?_
      walk_at "zz"
      intro t ht
      generalize hU : L2.upd H6 t _ = H7
      have S7 : _root_.Z.Same H6 H7 := hU ▸ _root_.Z.same_new ht
      have h7 := (congrFun hU t).symm
      rw [L2.upd_same] at h7
      clear hU
      walk_at "zz"
      exact fin _ t l ("fun" :: w0 :: ["p", "with", "is"]) (2 + 0) (((B04.trans (.of S5)).trans (.of S6)).trans (.of S7)) ((((P4.same S5).same S6).same S7).le (by omega)) (S7 _ _ h6) h7 (badH2 NM nk h4 (.all (by decide +kernel)) (by decide) (by rw [if_pos (by omega)]; decide +kernel))

    · walk_at "zz"
      refine s_ifdt c2 ?_
      walk_at "zz"
      intro l2 hl2
      generalize hU : L2.upd H4 l2 _ = H5
      have S5 : _root_.Z.Same H4 H5 := hU ▸ _root_.Z.same_new hl2
      have h5 := (congrFun hU l2).symm
      rw [L2.upd_same] at h5
      clear hU
      walk_at "zz"
      refine s_add_S (S5 _ _ h4s) h5 (Nat.le_of_lt (Nat.lt_of_le_of_lt (show _ ≤ 100 by simp) (by decide))) fun l H6 S6 hl0 h6 => ?_
      walk_at "zz"
      intro t ht
      generalize hU : L2.upd H6 t _ = H7
      have S7 : _root_.Z.Same H6 H7 := hU ▸ _root_.Z.same_new ht
      have h7 := (congrFun hU t).symm
      rw [L2.upd_same] at h7
      clear hU
      walk_at "zz"
      exact fin _ t l ("fun" :: w0 :: ["p", "q", "r", "s", "t", "with", "is"]) (2 + 4) (((B04.trans (.of S5)).trans (.of S6)).trans (.of S7)) ((((P4.same S5).same S6).same S7).le (by omega)) (S7 _ _ h6) h7 (badH2 NM nk h4 (.all (by decide +kernel)) (by decide) (by rw [if_neg (by omega)]; decide +kernel))
  refine s_ifdf c2 ?_
  walk_at "zz"
  refine s_ifdf c2 ?_
  walk_at "zz"
  by_cases c3 : u = 3
  · refine s_ifdt c3 ?_
    walk_at "zz"
    refine s_ifd (fun ck => ?_) (fun ck => ?_)
    · walk_at "zz"
      intro l2 hl2
      generalize hU : L2.upd H4 l2 _ = H5
      have S5 : _root_.Z.Same H4 H5 := hU ▸ _root_.Z.same_new hl2
      have h5 := (congrFun hU l2).symm
      rw [L2.upd_same] at h5
      clear hU
      walk_at "zz"
      refine s_add_S (S5 _ _ h4s) h5 (Nat.le_of_lt (Nat.lt_of_le_of_lt (show _ ≤ 100 by simp) (by decide))) fun l3 H6 S6 hl3 h6 => ?_
      walk_at "zz"
      refine s_itstr ?_
      walk_at "zz"
      refine s_zitstr ?_
      refine lc_str (fun D i H' => Same H6 H' ∧ H6 D = none ∧ H' D = some (.lst (((("abcdefghi" : Str).cps.toList.take i).map fun c => ("b" : Str) ++ ch1 c).map V.str))) (fun D hD => ⟨same_new hD, hD, upd_same⟩) (fun D i c H' hD hc ⟨S, hDn, hd⟩ => ?_) (fun D H7 hD ⟨SD, hDn, hd⟩ => ?_)
      · walk_at "zz"
        refine s_add_s (by show 1 + 1 ≤ sizeLine; decide) ?_
        walk_at "zz"
        refine c_acc hd (by rw [List.length_map, List.length_map, List.length_take]; exact Nat.lt_of_le_of_lt (Nat.min_le_right _ _) (by decide +kernel)) fun H8 B8 h8 => ?_
        refine ⟨same_own S B8 hDn, hDn, ?_⟩
        have : ("abcdefghi" : Str).cps.toList.take (i + 1) = ("abcdefghi" : Str).cps.toList.take i ++ [c] := by
          rw [List.take_add_one, Array.getElem?_toList, hc]; rfl
        rw [h8, this]
        simp [ch1, ofL]
      rw [show ("abcdefghi" : Str).cps.size = ("abcdefghi" : Str).cps.toList.length by rw [Array.length_toList], List.take_length] at hd
      walk_at "zz"
      refine s_add_S (SD _ _ h6) hd (by simp only [List.length_append, List.length_cons, List.length_nil, List.length_map]; decide +kernel) fun l4 H8 S8 hl4 h8 => ?_
      walk_at "zz"
      intro l5 hl5
      generalize hU : L2.upd H8 l5 _ = G1
      have T1 : _root_.Z.Same H8 G1 := hU ▸ _root_.Z.same_new hl5
      have g1 := (congrFun hU l5).symm
      rw [L2.upd_same] at g1
      clear hU
      walk_at "zz"
      refine s_add_S (T1 _ _ h8) g1 (by simp only [List.length_append, List.length_cons, List.length_nil, List.length_map]; decide +kernel) fun l G2 T2 hl0 g2 => ?_
      walk_at "zz"
      intro t ht
      generalize hU : L2.upd G2 t _ = G3
      have T3 : _root_.Z.Same G2 G3 := hU ▸ _root_.Z.same_new ht
      have g3 := (congrFun hU t).symm
      rw [L2.upd_same] at g3
      clear hU
      walk_at "zz"
      exact fin _ t l ("fun" :: w0 :: ([("p" : Str), "q", "r", "s", "with"] ++ (("abcdefghi" : Str).cps.toList.map fun c => ("b" : Str) ++ ch1 c) ++ [("is" : Str)])) (2 + 13) (((((((B04.trans (.of S5)).trans (.of S6)).trans (.of SD)).trans (.of S8)).trans (.of T1)).trans (.of T2)).trans (.of T3)) ((((((((P4.same S5).same S6).same SD).same S8).same T1).same T2).same T3).le (by omega)) (by rw [T3 _ _ g2]; simp; done) g3 (badH2 NM nk h4 (.all (by decide +kernel)) (by decide +kernel) (by rw [if_neg (by omega)]; decide +kernel))
    · walk_at "zz"
      refine s_ifdt c3 ?_
      walk_at "zz"
      intro l2 hl2
      generalize hU : L2.upd H4 l2 _ = H5
      have S5 : _root_.Z.Same H4 H5 := hU ▸ _root_.Z.same_new hl2
      have h5 := (congrFun hU l2).symm
      rw [L2.upd_same] at h5
      clear hU
      walk_at "zz"
      refine s_add_S (S5 _ _ h4s) h5 (Nat.le_of_lt (Nat.lt_of_le_of_lt (show _ ≤ 100 by simp) (by decide))) fun l3 H6 S6 hl3 h6 => ?_
      walk_at "zz"
      refine s_itstr ?_
      walk_at "zz"
      refine s_zitstr ?_
      refine lc_str (fun D i H' => Same H6 H' ∧ H6 D = none ∧ H' D = some (.lst (((("abcdefghijklm" : Str).cps.toList.take i).map fun c => ("b" : Str) ++ ch1 c).map V.str))) (fun D hD => ⟨same_new hD, hD, upd_same⟩) (fun D i c H' hD hc ⟨S, hDn, hd⟩ => ?_) (fun D H7 hD ⟨SD, hDn, hd⟩ => ?_)
      · walk_at "zz"
        refine s_add_s (by show 1 + 1 ≤ sizeLine; decide) ?_
        walk_at "zz"
        refine c_acc hd (by rw [List.length_map, List.length_map, List.length_take]; exact Nat.lt_of_le_of_lt (Nat.min_le_right _ _) (by decide +kernel)) fun H8 B8 h8 => ?_
        refine ⟨same_own S B8 hDn, hDn, ?_⟩
        have : ("abcdefghijklm" : Str).cps.toList.take (i + 1) = ("abcdefghijklm" : Str).cps.toList.take i ++ [c] := by
          rw [List.take_add_one, Array.getElem?_toList, hc]; rfl
        rw [h8, this]
        simp [ch1, ofL]
      rw [show ("abcdefghijklm" : Str).cps.size = ("abcdefghijklm" : Str).cps.toList.length by rw [Array.length_toList], List.take_length] at hd
      walk_at "zz"
      refine s_add_S (SD _ _ h6) hd (by simp only [List.length_append, List.length_cons, List.length_nil, List.length_map]; decide +kernel) fun l4 H8 S8 hl4 h8 => ?_
      walk_at "zz"
      intro l5 hl5
      generalize hU : L2.upd H8 l5 _ = G1
      have T1 : _root_.Z.Same H8 G1 := hU ▸ _root_.Z.same_new hl5
      have g1 := (congrFun hU l5).symm
      rw [L2.upd_same] at g1
      clear hU
      walk_at "zz"
      refine s_add_S (T1 _ _ h8) g1 (by simp only [List.length_append, List.length_cons, List.length_nil, List.length_map]; decide +kernel) fun l G2 T2 hl0 g2 => ?_
      walk_at "zz"
      intro t ht
      generalize hU : L2.upd G2 t _ = G3
      have T3 : _root_.Z.Same G2 G3 := hU ▸ _root_.Z.same_new ht
      have g3 := (congrFun hU t).symm
      rw [L2.upd_same] at g3
      clear hU
      walk_at "zz"
      exact fin _ t l ("fun" :: w0 :: ([("with" : Str)] ++ (("abcdefghijklm" : Str).cps.toList.map fun c => ("b" : Str) ++ ch1 c) ++ [("is" : Str)])) (2 + 13) (((((((B04.trans (.of S5)).trans (.of S6)).trans (.of SD)).trans (.of S8)).trans (.of T1)).trans (.of T2)).trans (.of T3)) ((((((((P4.same S5).same S6).same SD).same S8).same T1).same T2).same T3).le (by omega)) (by rw [T3 _ _ g2]; simp; done) g3 (badH2 NM nk h4 (.all (by decide +kernel)) (by decide +kernel) (by rw [if_pos (by omega)]; decide +kernel))
  refine s_ifdf c3 ?_
  walk_at "zz"
  refine s_ifdf c3 ?_
  walk_at "zz"
  refine s_ifd (fun c4 => ?_) (fun c4 => ?_)
  · walk_at "zz"
    intro l2 hl2
    generalize hU : L2.upd H4 l2 _ = H5
    have S5 : _root_.Z.Same H4 H5 := hU ▸ _root_.Z.same_new hl2
    have h5 := (congrFun hU l2).symm
    rw [L2.upd_same] at h5
    clear hU
    walk_at "zz"
    refine s_add_S (S5 _ _ h4s) h5 (Nat.le_of_lt (Nat.lt_of_le_of_lt (show _ ≤ 100 by simp) (by decide))) fun l H6 S6 hl0 h6 => ?_
    walk_at "zz"
    intro t ht
    generalize hU : L2.upd H6 t _ = H7
    have S7 : _root_.Z.Same H6 H7 := hU ▸ _root_.Z.same_new ht
    have h7 := (congrFun hU t).symm
    rw [L2.upd_same] at h7
    clear hU
    walk_at "zz"
    exact fin _ t l ("fun" :: w0 :: ["with", "p", "q", "p", "is"]) (2 + 3) (((B04.trans (.of S5)).trans (.of S6)).trans (.of S7)) ((((P4.same S5).same S6).same S7).le (by omega)) (S7 _ _ h6) h7 (badH2 NM nk h4 (.all (by decide +kernel)) (by decide) (by split <;> decide +kernel))
  walk_at "zz"
  refine s_ifd (fun c5 => ?_) (fun c5 => ?_)
  · walk_at "zz"
    intro l2 hl2
    have nl2 : l2 ≠ p := P4.ne hl2
    have nl2s : ls ≠ p := P3.ne hls
    generalize hU : L2.upd H4 l2 _ = H5
    have S5 : _root_.Z.Same H4 H5 := hU ▸ _root_.Z.same_new hl2
    have h5 := (congrFun hU l2).symm
    rw [L2.upd_same] at h5
    clear hU
    walk_at "zz"
    refine cl_Ldraw ⟨p, 2, n + 2, rfl, rfl, by decide, by decide, by omega, (P4.same S5).le (by omega), fun u2 H6 x0 x1 P6 B6 => ?_⟩
    walk_at "zz"
    have B06 := (B04.trans (.of S5)).trans B6
    have h56 := B6.rd nl2 h5
    have h4s6 := B6.rd nl2s (S5 _ _ h4s)
    obtain ⟨m, z, rfl, hm, hz⟩ : ∃ (m : Nat) (z : Str), u2 = (m : Int) ∧ [V.str w, V.str "with"][m]? = some (.str z) ∧ ((Clean z ∧ z.length ≤ 61) ∧ ∀ c : Bool, errOf (headE [("with" : Str), "q", z, "is", "0"] (if c = true then 0 else 4)) = some 2) := by
      rcases (by omega : u2 = 0 ∨ u2 = 1) with e | e
      · subst e; exact ⟨0, w, rfl, rfl, (BN_no wB).2⟩
      · subst e; exact ⟨1, "with", rfl, rfl, clB_of (by decide +kernel), fun c => by cases c <;> decide +kernel⟩
    refine s_ixN (m := m) (SqL.of h56) hm ?_
    walk_at "zz"
    intro l3 hl3
    generalize hU : L2.upd H6 l3 _ = H7
    have S7 : _root_.Z.Same H6 H7 := hU ▸ _root_.Z.same_new hl3
    have h7 := (congrFun hU l3).symm
    rw [L2.upd_same] at h7
    clear hU
    walk_at "zz"
    refine s_add_S (S7 _ _ h4s6) h7 (Nat.le_of_lt (Nat.lt_of_le_of_lt (show _ ≤ 100 by simp) (by decide))) fun l H8 S8 hl0 h8 => ?_
    walk_at "zz"
    intro t ht
    generalize hU : L2.upd H8 t _ = H9
    have S9 : _root_.Z.Same H8 H9 := hU ▸ _root_.Z.same_new ht
    have h9 := (congrFun hU t).symm
    rw [L2.upd_same] at h9
    clear hU
    walk_at "zz"
    exact fin _ t l ("fun" :: w0 :: ["with", "q", z, "is"]) (2 + 2) (((B06.trans (.of S7)).trans (.of S8)).trans (.of S9)) ((((P6.same S7).same S8).same S9).le (by omega)) (S9 _ _ h8) h9 (badH2 NM nk h4 (.cons (clB_of (by decide +kernel)) (.cons (clB_of (by decide +kernel)) (.cons hz.1 (.all (by decide +kernel))))) (by simp) (by
      have := hz.2 (decide (k = 0))
      by_cases e : k = 0
      · rw [if_pos e]; rw [decide_eq_true e] at this; exact this
      · rw [if_neg e]; rw [decide_eq_false e] at this; exact this))
  walk_at "zz"
  intro l2 hl2
  have nl2 : l2 ≠ p := P4.ne hl2
  have nl2s : ls ≠ p := P3.ne hls
  generalize hU : L2.upd H4 l2 _ = H5
  have S5 : _root_.Z.Same H4 H5 := hU ▸ _root_.Z.same_new hl2
  have h5 := (congrFun hU l2).symm
  rw [L2.upd_same] at h5
  clear hU
  walk_at "zz"
  refine cl_Ldraw ⟨p, 4, n + 2, rfl, rfl, by decide, by decide, by omega, (P4.same S5).le (by omega), fun u2 H6 x0 x1 P6 B6 => ?_⟩
  walk_at "zz"
  have B06 := (B04.trans (.of S5)).trans B6
  have h56 := B6.rd nl2 h5
  have h4s6 := B6.rd nl2s (S5 _ _ h4s)
  obtain ⟨m, z, rfl, hm, hz, hz2⟩ : ∃ (m : Nat) (z : Str), u2 = (m : Int) ∧ [V.str "is", V.str "set", V.str "0", V.str "fun"][m]? = some (.str z) ∧ (Clean z ∧ z.length ≤ 61) ∧ (errOf (headE [z, "with", "is", "0"] 0) = some 0 ∧ errOf (headE [z, "with", "is", "0"] 4) = some 0) := by
    rcases (by omega : u2 = 0 ∨ u2 = 1 ∨ u2 = 2 ∨ u2 = 3) with e | e | e | e
    · subst e; exact ⟨0, "is", rfl, rfl, clB_of (by decide +kernel), by decide +kernel⟩
    · subst e; exact ⟨1, "set", rfl, rfl, clB_of (by decide +kernel), by decide +kernel⟩
    · subst e; exact ⟨2, "0", rfl, rfl, clB_of (by decide +kernel), by decide +kernel⟩
    · subst e; exact ⟨3, "fun", rfl, rfl, clB_of (by decide +kernel), by decide +kernel⟩
  refine s_ixN (m := m) (SqL.of h56) hm ?_
  walk_at "zz"
  intro l3 hl3
  generalize hU : L2.upd H6 l3 _ = H7
  have S7 : _root_.Z.Same H6 H7 := hU ▸ _root_.Z.same_new hl3
  have h7 := (congrFun hU l3).symm
  rw [L2.upd_same] at h7
  clear hU
  walk_at "zz"
  refine s_add_S (S7 _ _ h4s6) h7 (Nat.le_of_lt (Nat.lt_of_le_of_lt (show _ ≤ 100 by simp) (by decide))) fun l H8 S8 hl0 h8 => ?_
  walk_at "zz"
  intro t ht
  generalize hU : L2.upd H8 t _ = H9
  have S9 : _root_.Z.Same H8 H9 := hU ▸ _root_.Z.same_new ht
  have h9 := (congrFun hU t).symm
  rw [L2.upd_same] at h9
  clear hU
  walk_at "zz"
  exact fin _ t l ("fun" :: w0 :: [z, "with", "is"]) (2 + 0) (((B06.trans (.of S7)).trans (.of S8)).trans (.of S9)) ((((P6.same S7).same S8).same S9).le (by omega)) (S9 _ _ h8) h9 (badH2 NM nk h4 (.cons hz (.all (by decide +kernel))) (by simp) (by
    by_cases e : k = 0
    · rw [if_pos e]; exact hz2.1
    · rw [if_neg e]; exact hz2.2))

theorem rd_Lbad_bodies {Z : Adr} (T : Top Z) {a0 a1 : V} {H : Hp} {Q : VK} {E : XK} (h : q_Lbad_bodies Z a0 a1 H Q E) : t_Lbad_bodies Z (fun cls d _ H => E cls d H) ⟨fun _ H' => Q .non H', Q, fun _ _ => False, fun _ _ => False⟩ [some a0, some a1, none, none, none, none, none, none, none] H := by
  unfold t_Lbad_bodies
  obtain ⟨p, tn, vs, nm, n, rfl, rfl, htn, N, h4, P, hn, q⟩ := h
  have lv := N.len
  obtain ⟨pa, pb, pc, _, _, _, hpp⟩ := id P
  walk_at "zz"
  refine lc_tp vs (fun D i H' => Same H H' ∧ H D = none ∧ H' D = some (.lst (((nm.take i).map (·.1)).map V.str))) (fun D hD => ⟨same_new hD, hD, upd_same⟩) (fun D i H' hD hi z => SqT.of (z.1 _ _ htn)) (fun D i v H' hD hv ⟨S, hDn, hd⟩ => ?_) (fun lt H1 hlt0 ⟨S, _, hlt⟩ => ?_)
  · obtain ⟨w, bx, t1, tb1, en, rfl, ht1, htb1⟩ := N.get hv
    refine s_gun_t (SqT.of (S _ _ ht1)) rfl ?_
    walk_at "zz"
    refine c_acc hd (by rw [List.length_map, List.length_map, List.length_take]; exact Nat.lt_of_le_of_lt (Nat.min_le_right _ _) (Nat.lt_of_le_of_lt h4 (by decide))) fun H8 B8 h8 => ?_
    refine ⟨same_own S B8 hDn, hDn, ?_⟩
    rw [h8, List.take_add_one, en]
    simp
  rw [lv, List.take_length] at hlt
  walk_at "zz"
  intro tt htt
  generalize hU : L2.upd H1 tt _ = H2
  have S2 : _root_.Z.Same H1 H2 := hU ▸ _root_.Z.same_new htt
  have h2 := (congrFun hU tt).symm
  rw [L2.upd_same] at h2
  clear hU
  replace S := S.trans S2
  have hlt := S2 _ _ hlt
  clear S2
  walk_at "zz"
  refine lc_tp (STR.map V.str) (fun D i H' => Same H2 H' ∧ H2 D = none ∧ H' D = some (.lst (((STR.take i).filter fun w => !decide (w ∈ nm.map (·.1))).map V.str))) (fun D hD => ⟨same_new hD, hD, upd_same⟩) (fun D i H' hD hi z => SqT.of (z.1 _ _ h2)) (fun D i v H' hD hv ⟨S3, hDn, hd⟩ => ?_) (fun lw H3 hlw0 ⟨S3, _, hlw⟩ => ?_)
  · rw [List.getElem?_map] at hv
    obtain ⟨w, hw, rfl⟩ := Option.map_eq_some_iff.mp hv
    have et : STR.take (i + 1) = STR.take i ++ [w] := by rw [List.take_add_one, hw]; rfl
    have hlt' := S3 _ _ hlt
    walk_at "zz"
    refine s_nin_l (SqL.of hlt') rfl (flat_strs _) ?_
    rw [inV_strs]
    walk_at "zz"
    refine s_ifk (fun c => ?_) (fun c => ?_)
    · walk_at "zz"
      refine c_acc hd (Nat.lt_of_le_of_lt (show _ ≤ 5 by rw [List.length_map]; exact Nat.le_trans (List.length_filter_le _ _) (by rw [List.length_take]; exact Nat.min_le_right _ _)) (by decide)) fun H8 B8 h8 => ?_
      refine ⟨same_own S3 B8 hDn, hDn, ?_⟩
      rw [h8, et, List.filter_append, List.map_append]
      congr 3
      rw [List.filter_cons_of_pos (by exact c)]
      rfl
    · refine ⟨S3, hDn, ?_⟩
      rw [hd, et, List.filter_append]
      congr 2
      simp at c
      simp [c]
  obtain ⟨s, r, es⟩ : ∃ s r, (STR.filter fun w => !decide (w ∈ nm.map (·.1))) = s :: r := by
    cases e : STR.filter fun w => !decide (w ∈ nm.map (·.1)) with
    | cons s r => exact ⟨s, r, rfl⟩
    | nil =>
      exfalso
      have := nodup_le (L := STR) (M := nm.map (·.1)) (by decide +kernel) fun x hx => by
        have := List.filter_eq_nil_iff.mp e x hx
        simpa using this
      rw [List.length_map] at this
      have : STR.length = 5 := rfl
      omega
  have hs : s ∈ STR ∧ s ∉ nm.map (·.1) := by
    have : s ∈ STR.filter fun w => !decide (w ∈ nm.map (·.1)) := by rw [es]; exact List.mem_cons_self
    have := List.mem_filter.mp this
    exact ⟨this.1, by simpa using this.2⟩
  rw [show (STR.map V.str).length = STR.length from rfl, List.take_length, es] at hlw
  refine s_ixN (m := 0) (SqL.of hlw) (v := .str s) rfl ?_
  have fin : ∀ (K' : Hp) (us : List V) (b : Addr) (W : XK), Same H K' → K' b = some (.lst us) → PrAt K' (BODS s) us → sp_Ldraw Z [V.ref p, V.int (us.length : Nat)] K' (fun y H2 => rIx Z.K (.ref b) y H2 Q) W := fun K' us b W S G A => by
    have al := A.len
    have bl : (BODS s).length = 36 := rfl
    obtain ⟨v0, hv0⟩ : ∃ x, us[0]? = some x := ⟨_, List.getElem?_eq_getElem (by omega)⟩
    obtain ⟨t0, _, _, rfl, _⟩ := A.get hv0
    have nb : b ≠ p := ne_of G (S _ _ hpp) fun z => by
      injection z with z
      rw [z] at hv0
      cases hv0
    refine cl_Ldraw ⟨p, _, n, rfl, rfl, by omega, by rw [al, bl]; decide +kernel, by omega, P.same S, fun v H2 x0 x1 P2 B2 => ?_⟩
    obtain ⟨j, rfl⟩ : ∃ j : Nat, v = (j : Int) := ⟨v.toNat, by omega⟩
    obtain ⟨v1, hv1⟩ : ∃ x, us[j]? = some x := ⟨_, List.getElem?_eq_getElem (by omega)⟩
    obtain ⟨t, a, e, rfl, he, ht, ha⟩ := A.get hv1
    refine s_ixN (m := j) (SqL.of (B2.rd nb G)) hv1 ?_
    have bad := BODS_bad hs.1 hs.2 (List.mem_of_getElem? he)
    have na : a ≠ p := ne_of ha (S _ _ hpp) fun z => by
      injection z with z
      cases q : e.1 with
      | nil => rw [q] at z; cases z
      | cons w r => rw [q] at z; injection z with z; cases z
    exact q t a e.1 e.2 H2 ((But.of S).trans B2) P2 (P.same S |>.tups B2 _ _ ht) (B2.rd na ha) bad
  replace S := S.trans S3
  clear S3 hlw hlt hlt0 es htt h2
  walk_at "zz"
  have A : PrAt H3 ([] : List (List Str × Nat)) [] := rfl
  intro a ha
  generalize hU : L2.upd H3 a _ = K11
  have S1 : _root_.Z.Same H3 K11 := hU ▸ _root_.Z.same_new ha
  have f := (congrFun hU a).symm
  rw [L2.upd_same] at f
  clear hU
  walk_at "zz"
  intro t0_0 ht
  generalize hU : L2.upd K11 t0_0 _ = K12
  have S2 : _root_.Z.Same K11 K12 := hU ▸ _root_.Z.same_new ht
  have f4 := (congrFun hU t0_0).symm
  rw [L2.upd_same] at f4
  clear hU
  replace S1 := S1.trans S2
  replace A := (A.same S1).app1 (ws := ["with"]) (i := 0) f4 (S2 _ _ f)
  replace S := S.trans S1
  clear S1 S2 f f4
  walk_at "zz"
  intro a ha
  generalize hU : L2.upd K12 a _ = K13
  have S1 : _root_.Z.Same K12 K13 := hU ▸ _root_.Z.same_new ha
  have f := (congrFun hU a).symm
  rw [L2.upd_same] at f
  clear hU
  walk_at "zz"
  intro t0_1 ht
  generalize hU : L2.upd K13 t0_1 _ = K14
  have S2 : _root_.Z.Same K13 K14 := hU ▸ _root_.Z.same_new ht
  have f4 := (congrFun hU t0_1).symm
  rw [L2.upd_same] at f4
  clear hU
  replace S1 := S1.trans S2
  replace A := (A.same S1).app1 (ws := ["zz"]) (i := 0) f4 (S2 _ _ f)
  replace S := S.trans S1
  clear S1 S2 f f4
  walk_at "zz"
  intro a ha
  generalize hU : L2.upd K14 a _ = K15
  have S1 : _root_.Z.Same K14 K15 := hU ▸ _root_.Z.same_new ha
  have f := (congrFun hU a).symm
  rw [L2.upd_same] at f
  clear hU
  walk_at "zz"
  intro t0_2 ht
  generalize hU : L2.upd K15 t0_2 _ = K16
  have S2 : _root_.Z.Same K15 K16 := hU ▸ _root_.Z.same_new ht
  have f4 := (congrFun hU t0_2).symm
  rw [L2.upd_same] at f4
  clear hU
  replace S1 := S1.trans S2
  replace A := (A.same S1).app1 (ws := ["01"]) (i := 0) f4 (S2 _ _ f)
  replace S := S.trans S1
  clear S1 S2 f f4
  walk_at "zz"
  intro a ha
  generalize hU : L2.upd K16 a _ = K17
  have S1 : _root_.Z.Same K16 K17 := hU ▸ _root_.Z.same_new ha
  have f := (congrFun hU a).symm
  rw [L2.upd_same] at f
  clear hU
  walk_at "zz"
  intro t0_3 ht
  generalize hU : L2.upd K17 t0_3 _ = K18
  have S2 : _root_.Z.Same K17 K18 := hU ▸ _root_.Z.same_new ht
  have f4 := (congrFun hU t0_3).symm
  rw [L2.upd_same] at f4
  clear hU
  replace S1 := S1.trans S2
  replace A := (A.same S1).app1 (ws := ["-0"]) (i := 0) f4 (S2 _ _ f)
  replace S := S.trans S1
  clear S1 S2 f f4
  walk_at "zz"
  intro a ha
  generalize hU : L2.upd K18 a _ = K19
  have S1 : _root_.Z.Same K18 K19 := hU ▸ _root_.Z.same_new ha
  have f := (congrFun hU a).symm
  rw [L2.upd_same] at f
  clear hU
  walk_at "zz"
  intro t0_4 ht
  generalize hU : L2.upd K19 t0_4 _ = K20
  have S2 : _root_.Z.Same K19 K20 := hU ▸ _root_.Z.same_new ht
  have f4 := (congrFun hU t0_4).symm
  rw [L2.upd_same] at f4
  clear hU
  replace S1 := S1.trans S2
  replace A := (A.same S1).app1 (ws := ["add", "1", "is"]) (i := 2) f4 (S2 _ _ f)
  replace S := S.trans S1
  clear S1 S2 f f4
  walk_at "zz"
  intro a ha
  generalize hU : L2.upd K20 a _ = K21
  have S1 : _root_.Z.Same K20 K21 := hU ▸ _root_.Z.same_new ha
  have f := (congrFun hU a).symm
  rw [L2.upd_same] at f
  clear hU
  walk_at "zz"
  intro t0_5 ht
  generalize hU : L2.upd K21 t0_5 _ = K22
  have S2 : _root_.Z.Same K21 K22 := hU ▸ _root_.Z.same_new ht
  have f4 := (congrFun hU t0_5).symm
  rw [L2.upd_same] at f4
  clear hU
  replace S1 := S1.trans S2
  replace A := (A.same S1).app1 (ws := ["+1"]) (i := 0) f4 (S2 _ _ f)
  replace S := S.trans S1
  clear S1 S2 f f4
  walk_at "zz"
  intro a ha
  generalize hU : L2.upd K22 a _ = K23
  have S1 : _root_.Z.Same K22 K23 := hU ▸ _root_.Z.same_new ha
  have f := (congrFun hU a).symm
  rw [L2.upd_same] at f
  clear hU
  walk_at "zz"
  intro t0_6 ht
  generalize hU : L2.upd K23 t0_6 _ = K24
  have S2 : _root_.Z.Same K23 K24 := hU ▸ _root_.Z.same_new ht
  have f4 := (congrFun hU t0_6).symm
  rw [L2.upd_same] at f4
  clear hU
  replace S1 := S1.trans S2
  replace A := (A.same S1).app1 (ws := ["set", "0"]) (i := 1) f4 (S2 _ _ f)
  replace S := S.trans S1
  clear S1 S2 f f4
  walk_at "zz"
  intro a ha
  generalize hU : L2.upd K24 a _ = K25
  have S1 : _root_.Z.Same K24 K25 := hU ▸ _root_.Z.same_new ha
  have f := (congrFun hU a).symm
  rw [L2.upd_same] at f
  clear hU
  replace S := S.trans S1
  replace A := A.same S1
  have G := f
  have A0 := A
  clear A f S1
  walk_at "zz"
  have A : PrAt K25 ([] : List (List Str × Nat)) [] := rfl
  intro a ha
  generalize hU : L2.upd K25 a _ = K26
  have S1 : _root_.Z.Same K25 K26 := hU ▸ _root_.Z.same_new ha
  have f := (congrFun hU a).symm
  rw [L2.upd_same] at f
  clear hU
  walk_at "zz"
  intro t1_0 ht
  generalize hU : L2.upd K26 t1_0 _ = K27
  have S2 : _root_.Z.Same K26 K27 := hU ▸ _root_.Z.same_new ht
  have f4 := (congrFun hU t1_0).symm
  rw [L2.upd_same] at f4
  clear hU
  replace S1 := S1.trans S2
  replace A := (A.same S1).app1 (ws := ["set", "zz", "0"]) (i := 1) f4 (S2 _ _ f)
  replace S := S.trans S1
  replace G := S1 _ _ G
  replace A0 := A0.same S1
  clear S1 S2 f f4
  walk_at "zz"
  intro a ha
  generalize hU : L2.upd K27 a _ = K28
  have S1 : _root_.Z.Same K27 K28 := hU ▸ _root_.Z.same_new ha
  have f := (congrFun hU a).symm
  rw [L2.upd_same] at f
  clear hU
  walk_at "zz"
  intro t1_1 ht
  generalize hU : L2.upd K28 t1_1 _ = K29
  have S2 : _root_.Z.Same K28 K29 := hU ▸ _root_.Z.same_new ht
  have f4 := (congrFun hU t1_1).symm
  rw [L2.upd_same] at f4
  clear hU
  replace S1 := S1.trans S2
  replace A := (A.same S1).app1 (ws := ["all", "0"]) (i := 1) f4 (S2 _ _ f)
  replace S := S.trans S1
  replace G := S1 _ _ G
  replace A0 := A0.same S1
  clear S1 S2 f f4
  walk_at "zz"
  intro a ha
  generalize hU : L2.upd K29 a _ = K30
  have S1 : _root_.Z.Same K29 K30 := hU ▸ _root_.Z.same_new ha
  have f := (congrFun hU a).symm
  rw [L2.upd_same] at f
  clear hU
  walk_at "zz"
  intro t1_2 ht
  generalize hU : L2.upd K30 t1_2 _ = K31
  have S2 : _root_.Z.Same K30 K31 := hU ▸ _root_.Z.same_new ht
  have f4 := (congrFun hU t1_2).symm
  rw [L2.upd_same] at f4
  clear hU
  replace S1 := S1.trans S2
  replace A := (A.same S1).app1 (ws := ["all", "13"]) (i := 1) f4 (S2 _ _ f)
  replace S := S.trans S1
  replace G := S1 _ _ G
  replace A0 := A0.same S1
  clear S1 S2 f f4
  walk_at "zz"
  intro a ha
  generalize hU : L2.upd K31 a _ = K32
  have S1 : _root_.Z.Same K31 K32 := hU ▸ _root_.Z.same_new ha
  have f := (congrFun hU a).symm
  rw [L2.upd_same] at f
  clear hU
  walk_at "zz"
  intro t1_3 ht
  generalize hU : L2.upd K32 t1_3 _ = K33
  have S2 : _root_.Z.Same K32 K33 := hU ▸ _root_.Z.same_new ht
  have f4 := (congrFun hU t1_3).symm
  rw [L2.upd_same] at f4
  clear hU
  replace S1 := S1.trans S2
  replace A := (A.same S1).app1 (ws := ["all", "01", "1"]) (i := 1) f4 (S2 _ _ f)
  replace S := S.trans S1
  replace G := S1 _ _ G
  replace A0 := A0.same S1
  clear S1 S2 f f4
  walk_at "zz"
  intro a ha
  generalize hU : L2.upd K33 a _ = K34
  have S1 : _root_.Z.Same K33 K34 := hU ▸ _root_.Z.same_new ha
  have f := (congrFun hU a).symm
  rw [L2.upd_same] at f
  clear hU
  replace S := S.trans S1
  replace A := A.same S1
  replace G := S1 _ _ G
  replace A0 := A0.same S1
  walk_at "zz"
  refine s_add_S G f (Nat.le_of_lt (Nat.lt_of_le_of_lt (show _ ≤ 100 by simp) (by decide))) fun b K35 S2 hb f2 => ?_
  replace A0 := (A.same S2).app (A0.same S2)
  replace G := f2
  replace S := S.trans S2
  clear A f S1 S2
  walk_at "zz"
  have A : PrAt K35 ([] : List (List Str × Nat)) [] := rfl
  intro a ha
  generalize hU : L2.upd K35 a _ = K36
  have S1 : _root_.Z.Same K35 K36 := hU ▸ _root_.Z.same_new ha
  have f := (congrFun hU a).symm
  rw [L2.upd_same] at f
  clear hU
  walk_at "zz"
  intro t2_0 ht
  generalize hU : L2.upd K36 t2_0 _ = K37
  have S2 : _root_.Z.Same K36 K37 := hU ▸ _root_.Z.same_new ht
  have f4 := (congrFun hU t2_0).symm
  rw [L2.upd_same] at f4
  clear hU
  replace S1 := S1.trans S2
  replace A := (A.same S1).app1 (ws := ["all", "k", "1"]) (i := 1) f4 (S2 _ _ f)
  replace S := S.trans S1
  replace G := S1 _ _ G
  replace A0 := A0.same S1
  clear S1 S2 f f4
  walk_at "zz"
  intro a ha
  generalize hU : L2.upd K37 a _ = K38
  have S1 : _root_.Z.Same K37 K38 := hU ▸ _root_.Z.same_new ha
  have f := (congrFun hU a).symm
  rw [L2.upd_same] at f
  clear hU
  walk_at "zz"
  intro t2_1 ht
  generalize hU : L2.upd K38 t2_1 _ = K39
  have S2 : _root_.Z.Same K38 K39 := hU ▸ _root_.Z.same_new ht
  have f4 := (congrFun hU t2_1).symm
  rw [L2.upd_same] at f4
  clear hU
  replace S1 := S1.trans S2
  replace A := (A.same S1).app1 (ws := ["pick", "1", "k", "1"]) (i := 1) f4 (S2 _ _ f)
  replace S := S.trans S1
  replace G := S1 _ _ G
  replace A0 := A0.same S1
  clear S1 S2 f f4
  walk_at "zz"
  intro a ha
  generalize hU : L2.upd K39 a _ = K40
  have S1 : _root_.Z.Same K39 K40 := hU ▸ _root_.Z.same_new ha
  have f := (congrFun hU a).symm
  rw [L2.upd_same] at f
  clear hU
  walk_at "zz"
  intro t2_2 ht
  generalize hU : L2.upd K40 t2_2 _ = K41
  have S2 : _root_.Z.Same K40 K41 := hU ▸ _root_.Z.same_new ht
  have f4 := (congrFun hU t2_2).symm
  rw [L2.upd_same] at f4
  clear hU
  replace S1 := S1.trans S2
  replace A := (A.same S1).app1 (ws := ["pick", "13", "k"]) (i := 1) f4 (S2 _ _ f)
  replace S := S.trans S1
  replace G := S1 _ _ G
  replace A0 := A0.same S1
  clear S1 S2 f f4
  walk_at "zz"
  intro a ha
  generalize hU : L2.upd K41 a _ = K42
  have S1 : _root_.Z.Same K41 K42 := hU ▸ _root_.Z.same_new ha
  have f := (congrFun hU a).symm
  rw [L2.upd_same] at f
  clear hU
  walk_at "zz"
  intro t2_3 ht
  generalize hU : L2.upd K42 t2_3 _ = K43
  have S2 : _root_.Z.Same K42 K43 := hU ▸ _root_.Z.same_new ht
  have f4 := (congrFun hU t2_3).symm
  rw [L2.upd_same] at f4
  clear hU
  replace S1 := S1.trans S2
  replace A := (A.same S1).app1 (ws := ["pick", "-1"]) (i := 1) f4 (S2 _ _ f)
  replace S := S.trans S1
  replace G := S1 _ _ G
  replace A0 := A0.same S1
  clear S1 S2 f f4
  walk_at "zz"
  intro a ha
  generalize hU : L2.upd K43 a _ = K44
  have S1 : _root_.Z.Same K43 K44 := hU ▸ _root_.Z.same_new ha
  have f := (congrFun hU a).symm
  rw [L2.upd_same] at f
  clear hU
  replace S := S.trans S1
  replace A := A.same S1
  replace G := S1 _ _ G
  replace A0 := A0.same S1
  walk_at "zz"
  refine s_add_S G f (Nat.le_of_lt (Nat.lt_of_le_of_lt (show _ ≤ 100 by simp) (by decide))) fun b K45 S2 hb f2 => ?_
  replace A0 := (A.same S2).app (A0.same S2)
  replace G := f2
  replace S := S.trans S2
  clear A f S1 S2
  walk_at "zz"
  have A : PrAt K45 ([] : List (List Str × Nat)) [] := rfl
  intro a ha
  generalize hU : L2.upd K45 a _ = K46
  have S1 : _root_.Z.Same K45 K46 := hU ▸ _root_.Z.same_new ha
  have f := (congrFun hU a).symm
  rw [L2.upd_same] at f
  clear hU
  walk_at "zz"
  intro t3_0 ht
  generalize hU : L2.upd K46 t3_0 _ = K47
  have S2 : _root_.Z.Same K46 K47 := hU ▸ _root_.Z.same_new ht
  have f4 := (congrFun hU t3_0).symm
  rw [L2.upd_same] at f4
  clear hU
  replace S1 := S1.trans S2
  replace A := (A.same S1).app1 (ws := ["call", s]) (i := 1) f4 (S2 _ _ f)
  replace S := S.trans S1
  replace G := S1 _ _ G
  replace A0 := A0.same S1
  clear S1 S2 f f4
  walk_at "zz"
  intro a ha
  generalize hU : L2.upd K47 a _ = K48
  have S1 : _root_.Z.Same K47 K48 := hU ▸ _root_.Z.same_new ha
  have f := (congrFun hU a).symm
  rw [L2.upd_same] at f
  clear hU
  walk_at "zz"
  intro t3_1 ht
  generalize hU : L2.upd K48 t3_1 _ = K49
  have S2 : _root_.Z.Same K48 K49 := hU ▸ _root_.Z.same_new ht
  have f4 := (congrFun hU t3_1).symm
  rw [L2.upd_same] at f4
  clear hU
  replace S1 := S1.trans S2
  replace A := (A.same S1).app1 (ws := ["call", "0"]) (i := 1) f4 (S2 _ _ f)
  replace S := S.trans S1
  replace G := S1 _ _ G
  replace A0 := A0.same S1
  clear S1 S2 f f4
  walk_at "zz"
  intro a ha
  generalize hU : L2.upd K49 a _ = K50
  have S1 : _root_.Z.Same K49 K50 := hU ▸ _root_.Z.same_new ha
  have f := (congrFun hU a).symm
  rw [L2.upd_same] at f
  clear hU
  walk_at "zz"
  intro t3_2 ht
  generalize hU : L2.upd K50 t3_2 _ = K51
  have S2 : _root_.Z.Same K50 K51 := hU ▸ _root_.Z.same_new ht
  have f4 := (congrFun hU t3_2).symm
  rw [L2.upd_same] at f4
  clear hU
  replace S1 := S1.trans S2
  replace A := (A.same S1).app1 (ws := ["call", "call"]) (i := 1) f4 (S2 _ _ f)
  replace S := S.trans S1
  replace G := S1 _ _ G
  replace A0 := A0.same S1
  clear S1 S2 f f4
  walk_at "zz"
  refine s_repS 61 rfl (by decide) (by decide +kernel) (by decide +kernel) ?_
  walk_at "zz"
  intro a ha
  generalize hU : L2.upd K51 a _ = K52
  have S1 : _root_.Z.Same K51 K52 := hU ▸ _root_.Z.same_new ha
  have f := (congrFun hU a).symm
  rw [L2.upd_same] at f
  clear hU
  walk_at "zz"
  intro t3_3 ht
  generalize hU : L2.upd K52 t3_3 _ = K53
  have S2 : _root_.Z.Same K52 K53 := hU ▸ _root_.Z.same_new ht
  have f4 := (congrFun hU t3_3).symm
  rw [L2.upd_same] at f4
  clear hU
  replace S1 := S1.trans S2
  replace A := (A.same S1).app1 (ws := [repS "9" 61]) (i := 0) f4 (S2 _ _ f)
  replace S := S.trans S1
  replace G := S1 _ _ G
  replace A0 := A0.same S1
  clear S1 S2 f f4
  walk_at "zz"
  intro a ha
  generalize hU : L2.upd K53 a _ = K54
  have S1 : _root_.Z.Same K53 K54 := hU ▸ _root_.Z.same_new ha
  have f := (congrFun hU a).symm
  rw [L2.upd_same] at f
  clear hU
  walk_at "zz"
  intro t3_4 ht
  generalize hU : L2.upd K54 t3_4 _ = K55
  have S2 : _root_.Z.Same K54 K55 := hU ▸ _root_.Z.same_new ht
  have f4 := (congrFun hU t3_4).symm
  rw [L2.upd_same] at f4
  clear hU
  replace S1 := S1.trans S2
  replace A := (A.same S1).app1 (ws := ["get", "k"]) (i := 0) f4 (S2 _ _ f)
  replace S := S.trans S1
  replace G := S1 _ _ G
  replace A0 := A0.same S1
  clear S1 S2 f f4
  walk_at "zz"
  intro a ha
  generalize hU : L2.upd K55 a _ = K56
  have S1 : _root_.Z.Same K55 K56 := hU ▸ _root_.Z.same_new ha
  have f := (congrFun hU a).symm
  rw [L2.upd_same] at f
  clear hU
  replace S := S.trans S1
  replace A := A.same S1
  replace G := S1 _ _ G
  replace A0 := A0.same S1
  walk_at "zz"
  refine s_add_S G f (Nat.le_of_lt (Nat.lt_of_le_of_lt (show _ ≤ 100 by simp) (by decide))) fun b K57 S2 hb f2 => ?_
  replace A0 := (A.same S2).app (A0.same S2)
  replace G := f2
  replace S := S.trans S2
  clear A f S1 S2
  walk_at "zz"
  have A : PrAt K57 ([] : List (List Str × Nat)) [] := rfl
  intro a ha
  generalize hU : L2.upd K57 a _ = K58
  have S1 : _root_.Z.Same K57 K58 := hU ▸ _root_.Z.same_new ha
  have f := (congrFun hU a).symm
  rw [L2.upd_same] at f
  clear hU
  walk_at "zz"
  refine s_rep f (by decide) (by decide) fun b hb => ?_
  generalize hU : L2.upd K58 b _ = K59
  have S2 : _root_.Z.Same K58 K59 := hU ▸ _root_.Z.same_new hb
  have f2 := (congrFun hU b).symm
  rw [L2.upd_same] at f2
  clear hU
  replace f2 : K59 b = some (.lst ((rp 10 ["fail"]).map V.str)) := f2
  clear f
  have S1 := S1.trans S2
  walk_at "zz"
  intro c hc
  generalize hU : L2.upd K59 c _ = K60
  have S2 : _root_.Z.Same K59 K60 := hU ▸ _root_.Z.same_new hc
  have f3 := (congrFun hU c).symm
  rw [L2.upd_same] at f3
  clear hU
  have S1 := S1.trans S2
  walk_at "zz"
  refine s_add_S (S2 _ _ f2) f3 (by decide +kernel) fun a K61 S2 ha f => ?_
  have S1 := S1.trans S2
  clear f2 f3
  replace f : K61 a = some (.lst ((rp 10 ["fail"] ++ [("k" : Str)]).map V.str)) := f
  walk_at "zz"
  intro t4_0 ht
  generalize hU : L2.upd K61 t4_0 _ = K62
  have S2 : _root_.Z.Same K61 K62 := hU ▸ _root_.Z.same_new ht
  have f4 := (congrFun hU t4_0).symm
  rw [L2.upd_same] at f4
  clear hU
  replace S1 := S1.trans S2
  replace A := (A.same S1).app1 (ws := rp 10 ["fail"] ++ [("k" : Str)]) (i := 10) f4 (S2 _ _ f)
  replace S := S.trans S1
  replace G := S1 _ _ G
  replace A0 := A0.same S1
  clear S1 S2 f f4
  walk_at "zz"
  intro a ha
  generalize hU : L2.upd K62 a _ = K63
  have S1 : _root_.Z.Same K62 K63 := hU ▸ _root_.Z.same_new ha
  have f := (congrFun hU a).symm
  rw [L2.upd_same] at f
  clear hU
  walk_at "zz"
  refine s_rep f (by decide) (by decide) fun b hb => ?_
  generalize hU : L2.upd K63 b _ = K64
  have S2 : _root_.Z.Same K63 K64 := hU ▸ _root_.Z.same_new hb
  have f2 := (congrFun hU b).symm
  rw [L2.upd_same] at f2
  clear hU
  replace f2 : K64 b = some (.lst ((rp 10 ["all", "1"]).map V.str)) := f2
  clear f
  have S1 := S1.trans S2
  walk_at "zz"
  intro c hc
  generalize hU : L2.upd K64 c _ = K65
  have S2 : _root_.Z.Same K64 K65 := hU ▸ _root_.Z.same_new hc
  have f3 := (congrFun hU c).symm
  rw [L2.upd_same] at f3
  clear hU
  have S1 := S1.trans S2
  walk_at "zz"
  refine s_add_S (S2 _ _ f2) f3 (by decide +kernel) fun a K66 S2 ha f => ?_
  have S1 := S1.trans S2
  clear f2 f3
  replace f : K66 a = some (.lst ((rp 10 ["all", "1"] ++ [("k" : Str)]).map V.str)) := f
  walk_at "zz"
  intro t4_1 ht
  generalize hU : L2.upd K66 t4_1 _ = K67
  have S2 : _root_.Z.Same K66 K67 := hU ▸ _root_.Z.same_new ht
  have f4 := (congrFun hU t4_1).symm
  rw [L2.upd_same] at f4
  clear hU
  replace S1 := S1.trans S2
  replace A := (A.same S1).app1 (ws := rp 10 ["all", "1"] ++ [("k" : Str)]) (i := 20) f4 (S2 _ _ f)
  replace S := S.trans S1
  replace G := S1 _ _ G
  replace A0 := A0.same S1
  clear S1 S2 f f4
  walk_at "zz"
  intro a ha
  generalize hU : L2.upd K67 a _ = K68
  have S1 : _root_.Z.Same K67 K68 := hU ▸ _root_.Z.same_new ha
  have f := (congrFun hU a).symm
  rw [L2.upd_same] at f
  clear hU
  walk_at "zz"
  intro t4_2 ht
  generalize hU : L2.upd K68 t4_2 _ = K69
  have S2 : _root_.Z.Same K68 K69 := hU ▸ _root_.Z.same_new ht
  have f4 := (congrFun hU t4_2).symm
  rw [L2.upd_same] at f4
  clear hU
  replace S1 := S1.trans S2
  replace A := (A.same S1).app1 (ws := ["k", "k"]) (i := 1) f4 (S2 _ _ f)
  replace S := S.trans S1
  replace G := S1 _ _ G
  replace A0 := A0.same S1
  clear S1 S2 f f4
  walk_at "zz"
  intro a ha
  generalize hU : L2.upd K69 a _ = K70
  have S1 : _root_.Z.Same K69 K70 := hU ▸ _root_.Z.same_new ha
  have f := (congrFun hU a).symm
  rw [L2.upd_same] at f
  clear hU
  walk_at "zz"
  intro t4_3 ht
  generalize hU : L2.upd K70 t4_3 _ = K71
  have S2 : _root_.Z.Same K70 K71 := hU ▸ _root_.Z.same_new ht
  have f4 := (congrFun hU t4_3).symm
  rw [L2.upd_same] at f4
  clear hU
  replace S1 := S1.trans S2
  replace A := (A.same S1).app1 (ws := ["0", "is"]) (i := 1) f4 (S2 _ _ f)
  replace S := S.trans S1
  replace G := S1 _ _ G
  replace A0 := A0.same S1
  clear S1 S2 f f4
  walk_at "zz"
  intro a ha
  generalize hU : L2.upd K71 a _ = K72
  have S1 : _root_.Z.Same K71 K72 := hU ▸ _root_.Z.same_new ha
  have f := (congrFun hU a).symm
  rw [L2.upd_same] at f
  clear hU
  replace S := S.trans S1
  replace A := A.same S1
  replace G := S1 _ _ G
  replace A0 := A0.same S1
  walk_at "zz"
  refine s_add_S G f (Nat.le_of_lt (Nat.lt_of_le_of_lt (show _ ≤ 100 by simp) (by decide))) fun b K73 S2 hb f2 => ?_
  replace A0 := (A.same S2).app (A0.same S2)
  replace G := f2
  replace S := S.trans S2
  clear A f S1 S2
  walk_at "zz"
  have A : PrAt K73 ([] : List (List Str × Nat)) [] := rfl
  intro a ha
  generalize hU : L2.upd K73 a _ = K74
  have S1 : _root_.Z.Same K73 K74 := hU ▸ _root_.Z.same_new ha
  have f := (congrFun hU a).symm
  rw [L2.upd_same] at f
  clear hU
  walk_at "zz"
  intro t5_0 ht
  generalize hU : L2.upd K74 t5_0 _ = K75
  have S2 : _root_.Z.Same K74 K75 := hU ▸ _root_.Z.same_new ht
  have f4 := (congrFun hU t5_0).symm
  rw [L2.upd_same] at f4
  clear hU
  replace S1 := S1.trans S2
  replace A := (A.same S1).app1 (ws := ["add", "k", "k", "k"]) (i := 3) f4 (S2 _ _ f)
  replace S := S.trans S1
  replace G := S1 _ _ G
  replace A0 := A0.same S1
  clear S1 S2 f f4
  walk_at "zz"
  intro a ha
  generalize hU : L2.upd K75 a _ = K76
  have S1 : _root_.Z.Same K75 K76 := hU ▸ _root_.Z.same_new ha
  have f := (congrFun hU a).symm
  rw [L2.upd_same] at f
  clear hU
  walk_at "zz"
  intro t5_1 ht
  generalize hU : L2.upd K76 t5_1 _ = K77
  have S2 : _root_.Z.Same K76 K77 := hU ▸ _root_.Z.same_new ht
  have f4 := (congrFun hU t5_1).symm
  rw [L2.upd_same] at f4
  clear hU
  replace S1 := S1.trans S2
  replace A := (A.same S1).app1 (ws := ["new", "0"]) (i := 1) f4 (S2 _ _ f)
  replace S := S.trans S1
  replace G := S1 _ _ G
  replace A0 := A0.same S1
  clear S1 S2 f f4
  walk_at "zz"
  intro a ha
  generalize hU : L2.upd K77 a _ = K78
  have S1 : _root_.Z.Same K77 K78 := hU ▸ _root_.Z.same_new ha
  have f := (congrFun hU a).symm
  rw [L2.upd_same] at f
  clear hU
  walk_at "zz"
  intro t5_2 ht
  generalize hU : L2.upd K78 t5_2 _ = K79
  have S2 : _root_.Z.Same K78 K79 := hU ▸ _root_.Z.same_new ht
  have f4 := (congrFun hU t5_2).symm
  rw [L2.upd_same] at f4
  clear hU
  replace S1 := S1.trans S2
  replace A := (A.same S1).app1 (ws := ["number", "1"]) (i := 0) f4 (S2 _ _ f)
  replace S := S.trans S1
  replace G := S1 _ _ G
  replace A0 := A0.same S1
  clear S1 S2 f f4
  walk_at "zz"
  intro a ha
  generalize hU : L2.upd K79 a _ = K80
  have S1 : _root_.Z.Same K79 K80 := hU ▸ _root_.Z.same_new ha
  have f := (congrFun hU a).symm
  rw [L2.upd_same] at f
  clear hU
  walk_at "zz"
  intro t5_3 ht
  generalize hU : L2.upd K80 t5_3 _ = K81
  have S2 : _root_.Z.Same K80 K81 := hU ▸ _root_.Z.same_new ht
  have f4 := (congrFun hU t5_3).symm
  rw [L2.upd_same] at f4
  clear hU
  replace S1 := S1.trans S2
  replace A := (A.same S1).app1 (ws := ["set", "k", "loop", "0"]) (i := 4) f4 (S2 _ _ f)
  replace S := S.trans S1
  replace G := S1 _ _ G
  replace A0 := A0.same S1
  clear S1 S2 f f4
  walk_at "zz"
  intro a ha
  generalize hU : L2.upd K81 a _ = K82
  have S1 : _root_.Z.Same K81 K82 := hU ▸ _root_.Z.same_new ha
  have f := (congrFun hU a).symm
  rw [L2.upd_same] at f
  clear hU
  replace S := S.trans S1
  replace A := A.same S1
  replace G := S1 _ _ G
  replace A0 := A0.same S1
  walk_at "zz"
  refine s_add_S G f (Nat.le_of_lt (Nat.lt_of_le_of_lt (show _ ≤ 100 by simp) (by decide))) fun b K83 S2 hb f2 => ?_
  replace A0 := (A.same S2).app (A0.same S2)
  replace G := f2
  replace S := S.trans S2
  clear A f S1 S2
  walk_at "zz"
  have A : PrAt K83 ([] : List (List Str × Nat)) [] := rfl
  intro a ha
  generalize hU : L2.upd K83 a _ = K84
  have S1 : _root_.Z.Same K83 K84 := hU ▸ _root_.Z.same_new ha
  have f := (congrFun hU a).symm
  rw [L2.upd_same] at f
  clear hU
  walk_at "zz"
  refine s_rep f (by decide) (by decide) fun b hb => ?_
  generalize hU : L2.upd K84 b _ = K85
  have S2 : _root_.Z.Same K84 K85 := hU ▸ _root_.Z.same_new hb
  have f2 := (congrFun hU b).symm
  rw [L2.upd_same] at f2
  clear hU
  replace f2 : K85 b = some (.lst ((rp 10 ["set", "k"]).map V.str)) := f2
  clear f
  have S1 := S1.trans S2
  walk_at "zz"
  intro c hc
  generalize hU : L2.upd K85 c _ = K86
  have S2 : _root_.Z.Same K85 K86 := hU ▸ _root_.Z.same_new hc
  have f3 := (congrFun hU c).symm
  rw [L2.upd_same] at f3
  clear hU
  have S1 := S1.trans S2
  walk_at "zz"
  refine s_add_S (S2 _ _ f2) f3 (by decide +kernel) fun a K87 S2 ha f => ?_
  have S1 := S1.trans S2
  clear f2 f3
  replace f : K87 a = some (.lst ((rp 10 ["set", "k"] ++ [("k" : Str)]).map V.str)) := f
  walk_at "zz"
  intro t6_0 ht
  generalize hU : L2.upd K87 t6_0 _ = K88
  have S2 : _root_.Z.Same K87 K88 := hU ▸ _root_.Z.same_new ht
  have f4 := (congrFun hU t6_0).symm
  rw [L2.upd_same] at f4
  clear hU
  replace S1 := S1.trans S2
  replace A := (A.same S1).app1 (ws := rp 10 ["set", "k"] ++ [("k" : Str)]) (i := 20) f4 (S2 _ _ f)
  replace S := S.trans S1
  replace G := S1 _ _ G
  replace A0 := A0.same S1
  clear S1 S2 f f4
  walk_at "zz"
  intro a ha
  generalize hU : L2.upd K88 a _ = K89
  have S1 : _root_.Z.Same K88 K89 := hU ▸ _root_.Z.same_new ha
  have f := (congrFun hU a).symm
  rw [L2.upd_same] at f
  clear hU
  walk_at "zz"
  intro t6_1 ht
  generalize hU : L2.upd K89 t6_1 _ = K90
  have S2 : _root_.Z.Same K89 K90 := hU ▸ _root_.Z.same_new ht
  have f4 := (congrFun hU t6_1).symm
  rw [L2.upd_same] at f4
  clear hU
  replace S1 := S1.trans S2
  replace A := (A.same S1).app1 (ws := ["1_0"]) (i := 0) f4 (S2 _ _ f)
  replace S := S.trans S1
  replace G := S1 _ _ G
  replace A0 := A0.same S1
  clear S1 S2 f f4
  walk_at "zz"
  intro a ha
  generalize hU : L2.upd K90 a _ = K91
  have S1 : _root_.Z.Same K90 K91 := hU ▸ _root_.Z.same_new ha
  have f := (congrFun hU a).symm
  rw [L2.upd_same] at f
  clear hU
  replace S := S.trans S1
  replace A := A.same S1
  replace G := S1 _ _ G
  replace A0 := A0.same S1
  walk_at "zz"
  refine s_add_S G f (Nat.le_of_lt (Nat.lt_of_le_of_lt (show _ ≤ 100 by simp) (by decide))) fun b K92 S2 hb f2 => ?_
  replace A0 := (A.same S2).app (A0.same S2)
  replace G := f2
  replace S := S.trans S2
  clear A f S1 S2
  walk_at "zz"
  have A : PrAt K92 ([] : List (List Str × Nat)) [] := rfl
  intro a ha
  generalize hU : L2.upd K92 a _ = K93
  have S1 : _root_.Z.Same K92 K93 := hU ▸ _root_.Z.same_new ha
  have f := (congrFun hU a).symm
  rw [L2.upd_same] at f
  clear hU
  walk_at "zz"
  refine s_rep f (by decide) (by decide) fun b hb => ?_
  generalize hU : L2.upd K93 b _ = K94
  have S2 : _root_.Z.Same K93 K94 := hU ▸ _root_.Z.same_new hb
  have f2 := (congrFun hU b).symm
  rw [L2.upd_same] at f2
  clear hU
  replace f2 : K94 b = some (.lst ((rp 9 ["pick", "2", "0", "0"]).map V.str)) := f2
  clear f
  have S1 := S1.trans S2
  walk_at "zz"
  intro c hc
  generalize hU : L2.upd K94 c _ = K95
  have S2 : _root_.Z.Same K94 K95 := hU ▸ _root_.Z.same_new hc
  have f3 := (congrFun hU c).symm
  rw [L2.upd_same] at f3
  clear hU
  have S1 := S1.trans S2
  walk_at "zz"
  refine s_add_S (S2 _ _ f2) f3 (by decide +kernel) fun a K96 S2 ha f => ?_
  have S1 := S1.trans S2
  clear f2 f3
  replace f : K96 a = some (.lst ((rp 9 ["pick", "2", "0", "0"] ++ [("pick" : Str), "2", "k"]).map V.str)) := f
  walk_at "zz"
  intro t7_0 ht
  generalize hU : L2.upd K96 t7_0 _ = K97
  have S2 : _root_.Z.Same K96 K97 := hU ▸ _root_.Z.same_new ht
  have f4 := (congrFun hU t7_0).symm
  rw [L2.upd_same] at f4
  clear hU
  replace S1 := S1.trans S2
  replace A := (A.same S1).app1 (ws := rp 9 ["pick", "2", "0", "0"] ++ [("pick" : Str), "2", "k"]) (i := 38) f4 (S2 _ _ f)
  replace S := S.trans S1
  replace G := S1 _ _ G
  replace A0 := A0.same S1
  clear S1 S2 f f4
  walk_at "zz"
  intro a ha
  generalize hU : L2.upd K97 a _ = K98
  have S1 : _root_.Z.Same K97 K98 := hU ▸ _root_.Z.same_new ha
  have f := (congrFun hU a).symm
  rw [L2.upd_same] at f
  clear hU
  replace S := S.trans S1
  replace A := A.same S1
  replace G := S1 _ _ G
  replace A0 := A0.same S1
  walk_at "zz"
  refine s_add_S G f (Nat.le_of_lt (Nat.lt_of_le_of_lt (show _ ≤ 100 by simp) (by decide))) fun b K99 S2 hb f2 => ?_
  replace A0 := (A.same S2).app (A0.same S2)
  replace G := f2
  replace S := S.trans S2
  clear A f S1 S2
  walk_at "zz"
  have A : PrAt K99 ([] : List (List Str × Nat)) [] := rfl
  intro a ha
  generalize hU : L2.upd K99 a _ = K100
  have S1 : _root_.Z.Same K99 K100 := hU ▸ _root_.Z.same_new ha
  have f := (congrFun hU a).symm
  rw [L2.upd_same] at f
  clear hU
  walk_at "zz"
  refine s_rep f (by decide) (by decide) fun b hb => ?_
  generalize hU : L2.upd K100 b _ = K101
  have S2 : _root_.Z.Same K100 K101 := hU ▸ _root_.Z.same_new hb
  have f2 := (congrFun hU b).symm
  rw [L2.upd_same] at f2
  clear hU
  replace f2 : K101 b = some (.lst ((rp 9 ["loop", "0"]).map V.str)) := f2
  clear f
  have S1 := S1.trans S2
  walk_at "zz"
  intro c hc
  generalize hU : L2.upd K101 c _ = K102
  have S2 : _root_.Z.Same K101 K102 := hU ▸ _root_.Z.same_new hc
  have f3 := (congrFun hU c).symm
  rw [L2.upd_same] at f3
  clear hU
  have S1 := S1.trans S2
  walk_at "zz"
  refine s_add_S (S2 _ _ f2) f3 (by decide +kernel) fun a K103 S2 ha f => ?_
  have S1 := S1.trans S2
  clear f2 f3
  replace f : K103 a = some (.lst ((rp 9 ["loop", "0"] ++ [("loop" : Str), "k"]).map V.str)) := f
  walk_at "zz"
  intro t8_0 ht
  generalize hU : L2.upd K103 t8_0 _ = K104
  have S2 : _root_.Z.Same K103 K104 := hU ▸ _root_.Z.same_new ht
  have f4 := (congrFun hU t8_0).symm
  rw [L2.upd_same] at f4
  clear hU
  replace S1 := S1.trans S2
  replace A := (A.same S1).app1 (ws := rp 9 ["loop", "0"] ++ [("loop" : Str), "k"]) (i := 19) f4 (S2 _ _ f)
  replace S := S.trans S1
  replace G := S1 _ _ G
  replace A0 := A0.same S1
  clear S1 S2 f f4
  walk_at "zz"
  intro a ha
  generalize hU : L2.upd K104 a _ = K105
  have S1 : _root_.Z.Same K104 K105 := hU ▸ _root_.Z.same_new ha
  have f := (congrFun hU a).symm
  rw [L2.upd_same] at f
  clear hU
  walk_at "zz"
  refine s_rep f (by decide) (by decide) fun b hb => ?_
  generalize hU : L2.upd K105 b _ = K106
  have S2 : _root_.Z.Same K105 K106 := hU ▸ _root_.Z.same_new hb
  have f2 := (congrFun hU b).symm
  rw [L2.upd_same] at f2
  clear hU
  replace f2 : K106 b = some (.lst ((rp 9 ["put", "1", "k"]).map V.str)) := f2
  clear f
  have S1 := S1.trans S2
  walk_at "zz"
  intro c hc
  generalize hU : L2.upd K106 c _ = K107
  have S2 : _root_.Z.Same K106 K107 := hU ▸ _root_.Z.same_new hc
  have f3 := (congrFun hU c).symm
  rw [L2.upd_same] at f3
  clear hU
  have S1 := S1.trans S2
  walk_at "zz"
  refine s_add_S (S2 _ _ f2) f3 (by decide +kernel) fun a K108 S2 ha f => ?_
  have S1 := S1.trans S2
  clear f2 f3
  replace f : K108 a = some (.lst ((rp 9 ["put", "1", "k"] ++ [("put" : Str), "1"]).map V.str)) := f
  walk_at "zz"
  intro t8_1 ht
  generalize hU : L2.upd K108 t8_1 _ = K109
  have S2 : _root_.Z.Same K108 K109 := hU ▸ _root_.Z.same_new ht
  have f4 := (congrFun hU t8_1).symm
  rw [L2.upd_same] at f4
  clear hU
  replace S1 := S1.trans S2
  replace A := (A.same S1).app1 (ws := rp 9 ["put", "1", "k"] ++ [("put" : Str), "1"]) (i := 28) f4 (S2 _ _ f)
  replace S := S.trans S1
  replace G := S1 _ _ G
  replace A0 := A0.same S1
  clear S1 S2 f f4
  walk_at "zz"
  intro a ha
  generalize hU : L2.upd K109 a _ = K110
  have S1 : _root_.Z.Same K109 K110 := hU ▸ _root_.Z.same_new ha
  have f := (congrFun hU a).symm
  rw [L2.upd_same] at f
  clear hU
  replace S := S.trans S1
  replace A := A.same S1
  replace G := S1 _ _ G
  replace A0 := A0.same S1
  walk_at "zz"
  refine s_add_S G f (Nat.le_of_lt (Nat.lt_of_le_of_lt (show _ ≤ 100 by simp) (by decide))) fun b K111 S2 hb f2 => ?_
  replace A0 := (A.same S2).app (A0.same S2)
  replace G := f2
  replace S := S.trans S2
  clear A f S1 S2
  walk_at "zz"
  have A : PrAt K111 ([] : List (List Str × Nat)) [] := rfl
  intro a ha
  generalize hU : L2.upd K111 a _ = K112
  have S1 : _root_.Z.Same K111 K112 := hU ▸ _root_.Z.same_new ha
  have f := (congrFun hU a).symm
  rw [L2.upd_same] at f
  clear hU
  walk_at "zz"
  refine s_rep f (by decide) (by decide) fun b hb => ?_
  generalize hU : L2.upd K112 b _ = K113
  have S2 : _root_.Z.Same K112 K113 := hU ▸ _root_.Z.same_new hb
  have f2 := (congrFun hU b).symm
  rw [L2.upd_same] at f2
  clear hU
  replace f2 : K113 b = some (.lst ((rp 10 ["size"]).map V.str)) := f2
  clear f
  have S1 := S1.trans S2
  walk_at "zz"
  intro c hc
  generalize hU : L2.upd K113 c _ = K114
  have S2 : _root_.Z.Same K113 K114 := hU ▸ _root_.Z.same_new hc
  have f3 := (congrFun hU c).symm
  rw [L2.upd_same] at f3
  clear hU
  have S1 := S1.trans S2
  walk_at "zz"
  refine s_add_S (S2 _ _ f2) f3 (by decide +kernel) fun a K115 S2 ha f => ?_
  have S1 := S1.trans S2
  clear f2 f3
  replace f : K115 a = some (.lst ((rp 10 ["size"] ++ [("k" : Str)]).map V.str)) := f
  walk_at "zz"
  intro t9_0 ht
  generalize hU : L2.upd K115 t9_0 _ = K116
  have S2 : _root_.Z.Same K115 K116 := hU ▸ _root_.Z.same_new ht
  have f4 := (congrFun hU t9_0).symm
  rw [L2.upd_same] at f4
  clear hU
  replace S1 := S1.trans S2
  replace A := (A.same S1).app1 (ws := rp 10 ["size"] ++ [("k" : Str)]) (i := 10) f4 (S2 _ _ f)
  replace S := S.trans S1
  replace G := S1 _ _ G
  replace A0 := A0.same S1
  clear S1 S2 f f4
  walk_at "zz"
  intro a ha
  generalize hU : L2.upd K116 a _ = K117
  have S1 : _root_.Z.Same K116 K117 := hU ▸ _root_.Z.same_new ha
  have f := (congrFun hU a).symm
  rw [L2.upd_same] at f
  clear hU
  walk_at "zz"
  refine s_rep f (by decide) (by decide) fun b hb => ?_
  generalize hU : L2.upd K117 b _ = K118
  have S2 : _root_.Z.Same K117 K118 := hU ▸ _root_.Z.same_new hb
  have f2 := (congrFun hU b).symm
  rw [L2.upd_same] at f2
  clear hU
  replace f2 : K118 b = some (.lst ((rp 10 ["add", "k"]).map V.str)) := f2
  clear f
  have S1 := S1.trans S2
  walk_at "zz"
  have f := f2
  clear f2
  intro t9_1 ht
  generalize hU : L2.upd K118 t9_1 _ = K119
  have S2 : _root_.Z.Same K118 K119 := hU ▸ _root_.Z.same_new ht
  have f4 := (congrFun hU t9_1).symm
  rw [L2.upd_same] at f4
  clear hU
  replace S1 := S1.trans S2
  replace A := (A.same S1).app1 (ws := rp 10 ["add", "k"]) (i := 19) f4 (S2 _ _ f)
  replace S := S.trans S1
  replace G := S1 _ _ G
  replace A0 := A0.same S1
  clear S1 S2 f f4
  walk_at "zz"
  intro a ha
  generalize hU : L2.upd K119 a _ = K120
  have S1 : _root_.Z.Same K119 K120 := hU ▸ _root_.Z.same_new ha
  have f := (congrFun hU a).symm
  rw [L2.upd_same] at f
  clear hU
  walk_at "zz"
  refine s_rep f (by decide) (by decide) fun b hb => ?_
  generalize hU : L2.upd K120 b _ = K121
  have S2 : _root_.Z.Same K120 K121 := hU ▸ _root_.Z.same_new hb
  have f2 := (congrFun hU b).symm
  rw [L2.upd_same] at f2
  clear hU
  replace f2 : K121 b = some (.lst ((rp 10 ["push"]).map V.str)) := f2
  clear f
  have S1 := S1.trans S2
  walk_at "zz"
  intro c hc
  generalize hU : L2.upd K121 c _ = K122
  have S2 : _root_.Z.Same K121 K122 := hU ▸ _root_.Z.same_new hc
  have f3 := (congrFun hU c).symm
  rw [L2.upd_same] at f3
  clear hU
  have S1 := S1.trans S2
  walk_at "zz"
  refine s_add_S (S2 _ _ f2) f3 (by decide +kernel) fun a K123 S2 ha f => ?_
  have S1 := S1.trans S2
  clear f2 f3
  replace f : K123 a = some (.lst ((rp 10 ["push"] ++ [("k" : Str)]).map V.str)) := f
  walk_at "zz"
  intro t9_2 ht
  generalize hU : L2.upd K123 t9_2 _ = K124
  have S2 : _root_.Z.Same K123 K124 := hU ▸ _root_.Z.same_new ht
  have f4 := (congrFun hU t9_2).symm
  rw [L2.upd_same] at f4
  clear hU
  replace S1 := S1.trans S2
  replace A := (A.same S1).app1 (ws := rp 10 ["push"] ++ [("k" : Str)]) (i := 10) f4 (S2 _ _ f)
  replace S := S.trans S1
  replace G := S1 _ _ G
  replace A0 := A0.same S1
  clear S1 S2 f f4
  walk_at "zz"
  intro a ha
  generalize hU : L2.upd K124 a _ = K125
  have S1 : _root_.Z.Same K124 K125 := hU ▸ _root_.Z.same_new ha
  have f := (congrFun hU a).symm
  rw [L2.upd_same] at f
  clear hU
  replace S := S.trans S1
  replace A := A.same S1
  replace G := S1 _ _ G
  replace A0 := A0.same S1
  walk_at "zz"
  refine s_add_S G f (Nat.le_of_lt (Nat.lt_of_le_of_lt (show _ ≤ 100 by simp) (by decide))) fun b K126 S2 hb f2 => ?_
  replace A0 := (A.same S2).app (A0.same S2)
  replace G := f2
  replace S := S.trans S2
  clear A f S1 S2
  walk_at "zz"
  exact fin _ _ _ _ S G A0

theorem rd_Ltexts {Z : Adr} (T : Top Z) {H : Hp} {Q : VK} {E : XK} (h : q_Ltexts Z  H Q E) : t_Ltexts Z (fun cls d _ H => E cls d H) ⟨fun _ H' => Q .non H', Q, fun _ _ => False, fun _ _ => False⟩ [none, none, none, none] H := by
  unfold t_Ltexts
  have big : 1000000 ≤ sizeLine := by decide
  have one : (" " : Str).length = 1 := by decide +kernel
  walk_at "zz"
  refine s_itstr ?_
  walk_at "zz"
  refine s_zitstr ?_
  refine lc_str (fun D i H' => Same H H' ∧ H D = none ∧ H' D = some (.lst (((LETL.take 17 |>.take i).map fun c => ("fun " : Str) ++ ch1 c ++ (" with is 0" : Str)).map V.str))) (fun D hD => ⟨same_new hD, hD, upd_same⟩) (fun D i c H' hD hc ⟨S, hDn, hd⟩ => ?_) (fun D H1 hD ⟨S, hDn, hd⟩ => ?_)
  · walk_at "zz"
    refine s_add_s (by show 4 + 1 ≤ sizeLine; decide) ?_
    walk_at "zz"
    refine s_add_s (by show (("fun " : Str) ++ ⟨#[c]⟩).length + 10 ≤ sizeLine; rw [show (("fun " : Str) ++ ⟨#[c]⟩).length = 5 by simp [Str.length, Str.cps_append]; rfl]; decide) ?_
    walk_at "zz"
    refine c_acc hd (by rw [List.length_map, List.length_map, List.length_take, List.length_take]; exact Nat.lt_of_le_of_lt (Nat.min_le_right _ _) (Nat.lt_of_le_of_lt (Nat.min_le_left _ _) (by decide))) fun H8 B8 h8 => ?_
    refine ⟨same_own S B8 hDn, hDn, ?_⟩
    have : (LETL.take 17).take (i + 1) = (LETL.take 17).take i ++ [c] := by
      rw [List.take_add_one, show LETL.take 17 = ("abcdefghijklmnopq" : Str).cps.toList by decide +kernel, Array.getElem?_toList, hc]; rfl
    rw [h8, this]
    simp [ch1, ofL]
  rw [show ("abcdefghijklmnopq" : Str).cps.size = (LETL.take 17).length by decide +kernel, List.take_length] at hd
  replace hd : H1 D = some (.lst (SHORT.map V.str)) := hd
  walk_at "zz"
  intro l1 hl1
  rw [show (16 : Int) = ((16 : Nat) : Int) from rfl, cut_takeS]
  generalize hU : L2.upd H1 l1 _ = H2
  have S2 : _root_.Z.Same H1 H2 := hU ▸ _root_.Z.same_new hl1
  have h2 := (congrFun hU l1).symm
  rw [L2.upd_same] at h2
  clear hU
  replace S := S.trans S2
  replace hd := S2 _ _ hd
  walk_at "zz"
  refine s_join_l (SqL.of h2) (by decide +kernel) ?_
  walk_at "zz"
  intro t1 ht1
  generalize hU : L2.upd H2 t1 _ = H3
  have S3 : _root_.Z.Same H2 H3 := hU ▸ _root_.Z.same_new ht1
  have h3 := (congrFun hU t1).symm
  rw [L2.upd_same] at h3
  clear hU
  have A : TxAt H3 [(Txt.join " " (SHORT.take 16), none)] [.ref t1] := ⟨t1, [], rfl, h3, rfl⟩
  replace S := S.trans S3
  replace hd := S3 _ _ hd
  clear h2 h3 S2 S3
  walk_at "zz"
  refine s_join_l (SqL.of hd) (by decide +kernel) ?_
  walk_at "zz"
  intro t2 ht2
  generalize hU : L2.upd H3 t2 _ = H4
  have S4 : _root_.Z.Same H3 H4 := hU ▸ _root_.Z.same_new ht2
  have h4 := (congrFun hU t2).symm
  rw [L2.upd_same] at h4
  clear hU
  replace A := (A.same S4).app (e := (Txt.join " " SHORT, some 80)) h4
  replace S := S.trans S4
  walk_at "zz"
  intro t3 ht3
  generalize hU : L2.upd H4 t3 _ = H5
  have S5 : _root_.Z.Same H4 H5 := hU ▸ _root_.Z.same_new ht3
  have h5 := (congrFun hU t3).symm
  rw [L2.upd_same] at h5
  clear hU
  replace A := (A.same S5).app (e := ("fun main with is call main 1", some 6)) h5
  replace S := S.trans S5
  walk_at "zz"
  intro lm hlm
  have nlm := S.free hlm
  generalize hU : L2.upd H5 lm _ = H6
  have S6 : _root_.Z.Same H5 H6 := hU ▸ _root_.Z.same_new hlm
  have h6 := (congrFun hU lm).symm
  rw [L2.upd_same] at h6
  clear hU
  replace A := A.same S6
  replace S := S.trans S6
  clear h4 h5 S4 S5 S6 hd
  walk_at "zz"
  intro t4 ht4
  generalize hU : L2.upd H6 t4 _ = H7
  have S7 : _root_.Z.Same H6 H7 := hU ▸ _root_.Z.same_new ht4
  have h7 := (congrFun hU t4).symm
  rw [L2.upd_same] at h7
  clear hU
  replace A := (A.same S7).app (e := ("fun main with is call f 1 fun f a with is 0 fun f with is 0", some 14)) h7
  replace S := S.trans S7
  walk_at "zz"
  refine c_append (S7 _ _ h6) (Nat.lt_of_le_of_lt (show _ ≤ 100 by simp) (by decide)) fun H8 B8 h8 => ?_
  replace A := A.mono (TupS.butL B8 (S7 _ _ h6))
  replace S := same_own S B8 nlm
  clear h6 h7 S7 B8
  walk_at "zz"
  intro t5 ht5
  generalize hU : L2.upd H8 t5 _ = H9
  have S9 : _root_.Z.Same H8 H9 := hU ▸ _root_.Z.same_new ht5
  have h9 := (congrFun hU t5).symm
  rw [L2.upd_same] at h9
  clear hU
  replace A := (A.same S9).app (e := ("fun main with is call f fun f with is 0 fun f a with is 0", some 12)) h9
  replace S := S.trans S9
  walk_at "zz"
  refine c_append (S9 _ _ h8) (Nat.lt_of_le_of_lt (show _ ≤ 100 by simp) (by decide)) fun H10 B10 h10 => ?_
  replace A := A.mono (TupS.butL B10 (S9 _ _ h8))
  replace S := same_own S B10 nlm
  clear h8 h9 S9 B10
  walk_at "zz"
  intro t6 ht6
  generalize hU : L2.upd H10 t6 _ = H11
  have S11 : _root_.Z.Same H10 H11 := hU ▸ _root_.Z.same_new ht6
  have h11 := (congrFun hU t6).symm
  rw [L2.upd_same] at h11
  clear hU
  replace A := (A.same S11).app (e := ("fun main with is call f 1 2 fun f a b", some 12)) h11
  replace S := S.trans S11
  walk_at "zz"
  intro t7 ht7
  generalize hU : L2.upd H11 t7 _ = H12
  have S12 : _root_.Z.Same H11 H12 := hU ▸ _root_.Z.same_new ht7
  have h12 := (congrFun hU t7).symm
  rw [L2.upd_same] at h12
  clear hU
  replace A := (A.same S12).app (e := ("fun main with is call f 1 fun f a b is 0", some 7)) h12
  replace S := S.trans S12
  walk_at "zz"
  intro l2 hl2
  generalize hU : L2.upd H12 l2 _ = H13
  have S13 : _root_.Z.Same H12 H13 := hU ▸ _root_.Z.same_new hl2
  have h13 := (congrFun hU l2).symm
  rw [L2.upd_same] at h13
  clear hU
  replace h10 := S13 _ _ (S12 _ _ (S11 _ _ h10))
  walk_at "zz"
  refine s_add_S h10 h13 (Nat.le_of_lt (Nat.lt_of_le_of_lt (show _ ≤ 100 by simp) (by decide))) fun l3 H14 S14 hl3 h14 => ?_
  replace A := (A.same S13).same S14
  replace S := (S.trans S13).trans S14
  clear h10 h11 h12 h13 S11 S12 S13 S14
  walk_at "zz"
  refine s_repS 10 rfl (by decide) (by decide +kernel) (by decide +kernel) ?_
  walk_at "zz"
  refine s_add_s (by decide +kernel) ?_
  walk_at "zz"
  refine s_add_s (by decide +kernel) ?_
  walk_at "zz"
  intro t8 ht8
  generalize hU : L2.upd H14 t8 _ = H15
  have S15 : _root_.Z.Same H14 H15 := hU ▸ _root_.Z.same_new ht8
  have h15 := (congrFun hU t8).symm
  rw [L2.upd_same] at h15
  clear hU
  replace A := (A.same S15).app (e := (("fun main with is 0 fun f a with is" : Str) ++ repS " call f" 10 ++ (" a" : Str), some 30)) h15
  replace S := S.trans S15
  walk_at "zz"
  intro l4 hl4
  generalize hU : L2.upd H15 l4 _ = H16
  have S16 : _root_.Z.Same H15 H16 := hU ▸ _root_.Z.same_new hl4
  have h16 := (congrFun hU l4).symm
  rw [L2.upd_same] at h16
  clear hU
  walk_at "zz"
  refine s_add_S (S16 _ _ (S15 _ _ h14)) h16 (Nat.le_of_lt (Nat.lt_of_le_of_lt (show _ ≤ 100 by simp) (by decide))) fun l5 H17 S17 hl5 h17 => ?_
  replace A := (A.same S16).same S17
  have hl5' := (S.trans S16).free hl5
  replace S := (S.trans S16).trans S17
  walk_at "zz"
  exact h l5 _ _ S hl5' h17 A

theorem rd_Lspoilt {Z : Adr} (T : Top Z) {a0 a1 a2 : V} {H : Hp} {Q : VK} {E : XK} (h : q_Lspoilt Z a0 a1 a2 H Q E) : t_Lspoilt Z (fun cls d _ H => E cls d H) ⟨fun _ H' => Q .non H', Q, fun _ _ => False, fun _ _ => False⟩ [some a0, some a1, some a2, none, none, none, none, none] H := by
  unfold t_Lspoilt
  obtain ⟨p, tn, ll, vs, us, nm, hs, Ls, n, rfl, rfl, rfl, htn, N, hll, L, PL, h4, P, hn, q⟩ := h
  obtain ⟨pa, pb, pc, _, _, _, hpp⟩ := id P
  have lv := N.len
  have lu := L.len
  have nl := PL.n.l
  have al := PL.l
  have h1 := PL.h.1
  have ntn : tn ≠ p := P.nt htn
  have nll : ll ≠ p := ne_of hll hpp fun z => by
    injection z with z
    exact absurd z (by
      intro z
      obtain ⟨v0, hv0⟩ : ∃ x, us[0]? = some x := ⟨_, List.getElem?_eq_getElem (by omega)⟩
      obtain ⟨_, _, rfl, _⟩ := L.get hv0
      rw [z] at hv0
      cases hv0)
  have big : 1000000 ≤ sizeLine := by decide
  walk_at "zz"
  rw [lu, al]
  refine cl_Ldraw ⟨p, _, n, rfl, rfl, by omega, Int.lt_of_le_of_lt (show _ ≤ 4 by omega) (by decide +kernel), by omega, P, fun v H1 v0 v1 P1 B1 => ?_⟩
  obtain ⟨k, rfl⟩ : ∃ k : Nat, v = (k : Int) := ⟨v.toNat, by omega⟩
  walk_at "zz"
  have hk : k < hs.length := by omega
  have B01 : But p H H1 := B1
  intro lc hlc
  rw [cut_takeX]
  have tups : ∀ {H' : Hp}, But p H H' → TupS H H' := fun B => TupS.but B hpp (by simp)
  have L1 : LinesG H1 Ls us := L.far hpp (fun w r => by simp) B1 fun l hl => by
    obtain ⟨j, hj⟩ := List.mem_iff_getElem?.mp hl
    obtain ⟨_, _, _, _, e5, _⟩ := PL.get (i := j) (by have := (List.getElem?_eq_some_iff.mp hj).1; omega)
    rw [hj] at e5
    rw [Option.some.inj e5]
    unfold lnP
    simp
  generalize hU : L2.upd H1 lc _ = H2
  have S2 : _root_.Z.Same H1 H2 := hU ▸ _root_.Z.same_new hlc
  have h2 := (congrFun hU lc).symm
  rw [L2.upd_same] at h2
  clear hU
  walk_at "zz"
  intro le hle
  generalize hU : L2.upd H2 le _ = H3
  have S3 : _root_.Z.Same H2 H3 := hU ▸ _root_.Z.same_new hle
  have h3 := (congrFun hU le).symm
  rw [L2.upd_same] at h3
  clear hU
  walk_at "zz"
  obtain ⟨W, hW⟩ : ∃ W, W = (Ls.take k).flatten := ⟨_, rfl⟩
  obtain ⟨wok, wlen⟩ := PL.ws (i := k) (by omega)
  have Wf : (((Ls.take k).map fun l => l.map V.str).flatten : List V) = W.map V.str := by rw [hW, List.map_flatten]
  rw [← hW] at wok wlen
  have k3 : k ≤ 3 := by omega
  refine s_sumL ((Ls.take k).map fun l => l.map V.str) (S3 _ _ h2) h3 (by rw [List.length_take, List.length_map, List.length_take, lu]) (fun i v hv => ?_) (by rw [Wf, List.length_map]; exact Nat.le_trans (show _ ≤ 1000000 by omega) big) fun lw H4 S4 hlw0 hlw => ?_
  · rw [List.getElem?_take] at hv
    by_cases c : i < k
    · rw [if_pos c] at hv
      obtain ⟨b, l, rfl, el, hb⟩ := L1.get hv
      exact ⟨b, l.map V.str, rfl, by rw [List.getElem?_map, List.getElem?_take, if_pos c, el]; rfl, S3 _ _ (S2 _ _ hb)⟩
    · rw [if_neg c] at hv; cases hv
  rw [Wf] at hlw
  have P4 := ((P1.same S2).same S3).same S4
  have B04 := ((B1.trans (.of S2)).trans (.of S3)).trans (.of S4)
  have htn4 := tups B04 _ _ htn
  have N4 := N.mono (tups B04)
  have nlw : lw ≠ p := by
    rcases hlw0 with z | z
    · exact ((P1.same S2).same S3).ne z
    · rw [z]; exact (P1.same S2).ne hle
  have h16 := PL.h.2.1
  walk_at "zz"
  refine cl_Ldraw ⟨p, 2, n + 1, rfl, rfl, by decide, by decide, by omega, P4, fun u H5 u0 u1 P5 B5 => ?_⟩
  have B05 := B04.trans B5
  have hlw5 := B5.rd nlw hlw
  have htn5 := tups B05 _ _ htn
  have N5 := N.mono (tups B05)
  walk_at "zz"
  refine s_ifd (fun c => ?_) (fun c => ?_)
  · walk_at "zz"
    refine cl_Lbad_heads ⟨p, tn, vs, nm, hs, k, n + 1 + 1, rfl, rfl, rfl, htn5, N5, PL.n, by omega, by omega, P5, by omega, fun t l bad x H6 B6 P6 ht hl BH => ?_⟩
    have hlw6 := B6.rd nlw hlw5
    have B06 := B05.trans B6
    refine s_gun_t (SqT.of ht) rfl ?_
    walk_at "zz"
    have bl := BH.l
    refine s_add_S hlw6 hl (by rw [List.length_map, List.length_map]; exact Nat.le_trans (show _ ≤ 1000000 by omega) big) fun l2 H7 S7 hl20 hl2 => ?_
    walk_at "zz"
    intro l3 hl3
    generalize hU : L2.upd H7 l3 _ = H8
    have S8 : _root_.Z.Same H7 H8 := hU ▸ _root_.Z.same_new hl3
    have h8 := (congrFun hU l3).symm
    rw [L2.upd_same] at h8
    clear hU
    walk_at "zz"
    refine s_add_S (S8 _ _ hl2) h8 (by simp only [List.length_append, List.length_map, List.length_cons, List.length_nil]; exact Nat.le_trans (show _ ≤ 1000000 by omega) big) fun l4 H9 S9 hl40 hl4 => ?_
    walk_at "zz"
    intro t2 ht2
    generalize hU : L2.upd H9 t2 _ = H10
    have S10 : _root_.Z.Same H9 H10 := hU ▸ _root_.Z.same_new ht2
    have h10 := (congrFun hU t2).symm
    rw [L2.upd_same] at h10
    clear hU
    refine q t2 l4 (W ++ (bad ++ [("0" : Str)])) (W.length + x) H10 ((((B06.trans (.of S7)).trans (.of S8)).trans (.of S9)).trans (.of S10)) (((((P6.same S7).same S8).same S9).same S10).le (by omega)) (by rw [h10, List.length_map, Int.natCast_add]) (by rw [S10 _ _ hl4]; simp) (by rw [hW]; exact read_badH PL hk BH) (wok.app (BH.ok.app (.all (by decide +kernel)))) (by simp only [List.length_append, List.length_cons, List.length_nil]; omega)
  walk_at "zz"
  obtain ⟨⟨w0, bx⟩, nk⟩ : ∃ x, nm[k]? = some x := ⟨_, List.getElem?_eq_getElem (by omega)⟩
  obtain ⟨v1, hv1⟩ : ∃ x, vs[k]? = some x := ⟨_, List.getElem?_eq_getElem (by omega)⟩
  obtain ⟨w', bx', t1, tb1, en, rfl, ht1, htb1⟩ := N5.get hv1
  rw [nk] at en
  cases en
  refine s_ixTN (m := k) (SqT.of htn5) hv1 ?_
  walk_at "zz"
  refine s_ixTN (m := 0) (SqT.of ht1) rfl ?_
  walk_at "zz"
  intro lh hlh
  have nlh : lh ≠ p := P5.ne hlh
  generalize hU : L2.upd H5 lh _ = H6
  have S6 : _root_.Z.Same H5 H6 := hU ▸ _root_.Z.same_new hlh
  have h6 := (congrFun hU lh).symm
  rw [L2.upd_same] at h6
  clear hU
  have B06 := B05.trans (.of S6)
  walk_at "zz"
  refine cl_Lbad_bodies ⟨p, tn, vs, nm, n + 1 + 1, rfl, rfl, S6 _ _ htn5, N5.mono (TupS.of S6), by omega, P5.same S6, by omega, fun t l bad x H7 B7 P7 ht hl BB => ?_⟩
  have hlw7 := B7.rd nlw (S6 _ _ hlw5)
  have hlh7 := B7.rd nlh h6
  have B07 := B06.trans B7
  refine s_gun_t (SqT.of ht) rfl ?_
  walk_at "zz"
  have bl := BB.l
  refine s_add_S hlw7 hlh7 (by simp only [List.length_append, List.length_map, List.length_cons, List.length_nil]; exact Nat.le_trans (show _ ≤ 1000000 by omega) big) fun l2 H8 S8 hl20 hl2 => ?_
  walk_at "zz"
  refine s_add_S hl2 (S8 _ _ hl) (by simp only [List.length_append, List.length_map, List.length_cons, List.length_nil]; exact Nat.le_trans (show _ ≤ 1000000 by omega) big) fun l4 H9 S9 hl40 hl4 => ?_
  walk_at "zz"
  intro t2 ht2
  generalize hU : L2.upd H9 t2 _ = H10
  have S10 : _root_.Z.Same H9 H10 := hU ▸ _root_.Z.same_new ht2
  have h10 := (congrFun hU t2).symm
  rw [L2.upd_same] at h10
  clear hU
  refine q t2 l4 (W ++ ([("fun" : Str), w0, "with", "k", "is"] ++ bad)) (W.length + 5 + x) H10 (((B07.trans (.of S8)).trans (.of S9)).trans (.of S10)) ((((P7.same S8).same S9).same S10).le (by omega)) (by rw [h10, List.length_map, Int.natCast_add, Int.natCast_add]; rfl) (by rw [S10 _ _ hl4]; simp) (by rw [hW]; exact read_badB PL h4 nk BB) (wok.app (.app (.cons (clB_of (by decide +kernel)) (.cons (name_ok (PL.n.n _ (List.mem_of_getElem? nk)).1) (.all (by decide +kernel)))) BB.ok)) (by simp only [List.length_append, List.length_cons, List.length_nil]; omega)

theorem rd_Llone {Z : Adr} (T : Top Z) {a0 a1 : V} {H : Hp} {Q : VK} {E : XK} (h : q_Llone Z a0 a1 H Q E) : t_Llone Z (fun cls d _ H => E cls d H) ⟨fun _ H' => Q .non H', Q, fun _ _ => False, fun _ _ => False⟩ [some a0, some a1, none, none] H := by
  unfold t_Llone
  obtain ⟨ll, us, nm, hs, bs, rfl, hll, L, PO, q⟩ := h
  have lu := L.len
  have NP := plain_of PO.n PO.h
  have bl := PO.l
  have nl := PO.n.l
  have big : 1000000 ≤ sizeLine := by decide
  have h16 := PO.h.2.1
  have lul : us.length ≤ bs.length := by rw [lu]; exact lineW_len
  walk_at "zz"
  intro lf hlf
  generalize hU : L2.upd H lf _ = H1
  have S1 : _root_.Z.Same H H1 := hU ▸ _root_.Z.same_new hlf
  have h1 := (congrFun hU lf).symm
  rw [L2.upd_same] at h1
  clear hU
  walk_at "zz"
  refine loop_list us (fun i σ' H' => Same H H' ∧ (∃ vs, H' lf = some (.lst vs) ∧ vs.length = i ∧ LinesG H' ((lnsP hs nm).take i) vs) ∧ ∃ x3 : Option V, σ' = [some a0, some (.ref ll), some (.ref lf), x3]) ⟨S1, ⟨[], h1, rfl, rfl⟩, _, rfl⟩ (fun i σ' H' hi z => SqL.of (z.1 _ _ hll)) ?_ ?_
  · rintro i v σ' H2 hv ⟨S2, ⟨vs, hvs, lvs, LV⟩, x3, rfl⟩
    obtain ⟨a, l, rfl, el, ha⟩ := L.get hv
    have hi := (List.getElem?_eq_some_iff.mp hv).1
    obtain ⟨h, n, e1, e2, e3, n1, n2, _, b3, _, b7⟩ := NP.get (i := i) (by omega)
    have e4 : bs[i]? = some bs[i] := List.getElem?_eq_getElem (by omega)
    obtain ⟨pre, W, eW, lp, np, ep⟩ := line_cut (nm := nm) (b := bs[i]) n1 n2 b3
    have el' := lineW_get (all := nm) e1 e2 e4
    rw [el] at el'
    have el' := Option.some.inj el'
    rw [el', eW] at ha
    have ha2 := S2 _ _ ha
    walk_at "zz"
    refine s_index (SqL.of ha2) rfl (flat_strs _) (j := pre.length) (z := .str "is") (by rw [List.getElem?_map, List.getElem?_append_right (Nat.le_refl _), Nat.sub_self]; rfl) (by rw [eqV_str]; decide +kernel) (fun m z' hm hz => ?_) ?_
    · rw [List.getElem?_map, List.getElem?_append_left hm] at hz
      obtain ⟨w, hw, rfl⟩ := Option.map_eq_some_iff.mp hz
      rw [eqV_str]
      exact decide_eq_false (np w (List.mem_of_getElem? hw))
    walk_at "zz"
    intro l2 hl2
    rw [show ((pre.length : Nat) : Int) + 1 = ((pre.length + 1 : Nat) : Int) by omega, cut_takeS, show (pre ++ ("is" : Str) :: W).take (pre.length + 1) = pre ++ [("is" : Str)] by rw [List.take_length_add_append]; rfl]
    generalize hU : L2.upd H2 l2 _ = H3
    have S3 : _root_.Z.Same H2 H3 := hU ▸ _root_.Z.same_new hl2
    have h3 := (congrFun hU l2).symm
    rw [L2.upd_same] at h3
    clear hU
    walk_at "zz"
    intro l3 hl3
    generalize hU : L2.upd H3 l3 _ = H4
    have S4 : _root_.Z.Same H3 H4 := hU ▸ _root_.Z.same_new hl3
    have h4 := (congrFun hU l3).symm
    rw [L2.upd_same] at h4
    clear hU
    walk_at "zz"
    refine s_add_S (S4 _ _ h3) h4 (by simp only [List.length_append, List.length_map, List.length_cons, List.length_nil]; exact Nat.le_trans (show _ ≤ 1000000 by omega) big) fun l4 H5 S5 hl4 h5 => ?_
    rw [show ((pre ++ [("is" : Str)]).map V.str ++ [V.str "0"] : List V) = (lnP h.1.toNat n).map V.str by rw [← ep]; simp] at h5
    have S25 := (S3.trans S4).trans S5
    have hvs5 := S25 _ _ hvs
    walk_at "zz"
    refine c_append hvs5 (by rw [lvs]; exact Nat.lt_of_lt_of_le (show i < 1000000 by omega) big) fun H6 B6 h6 => ?_
    walk_at "zz"
    refine ⟨same_own (S2.trans S25) B6 hlf, ⟨_, h6, by rw [List.length_append, lvs]; rfl, ?_⟩, _, rfl⟩
    have n4 : l4 ≠ lf := (ne_of_none hvs (by
      have := S3.free (S4.free hl4)
      exact this)).symm
    have : (lnsP hs nm).take (i + 1) = (lnsP hs nm).take i ++ [lnP h.1.toNat n] := by rw [List.take_add_one, e3]; rfl
    rw [this]
    refine LinesG.app (B6.rd n4 h5) ((LV.same S25).far hvs5 (fun w r => LinesG.refs (LV.same S25) w r) B6 fun l hl => ?_)
    have hm := List.mem_of_mem_take hl
    obtain ⟨j, hj⟩ := List.mem_iff_getElem?.mp hm
    obtain ⟨h', n', _, _, e5, _⟩ := NP.get (i := j) (by have := (List.getElem?_eq_some_iff.mp hj).1; have := NP.l; omega)
    rw [hj] at e5
    rw [Option.some.inj e5]
    unfold lnP
    simp
  rintro σ' H2 ⟨S2, ⟨vs, hvs, lvs, LV⟩, x3, rfl⟩
  walk_at "zz"
  refine q lf vs (lnsP hs nm) H2 S2 hlf hvs ?_ NP
  have al := NP.l
  rw [lu, lineW_lenE PO.al, ← al, List.take_length] at LV
  exact LV

theorem rd_law {Z : Adr} (T : Top Z) {a0 : V} {H : Hp} {Q : VK} {E : XK} (h : q_law Z a0 H Q E) : t_law Z (fun cls d _ H => E cls d H) ⟨fun _ H' => Q .non H', Q, fun _ _ => False, fun _ _ => False⟩ [some a0, none, none, none, none, none, none, none, none, none, none, none, none, none, none] H := by
  unfold t_law
  obtain ⟨a, ns, rfl, TT, hS, hns, q⟩ := h
  have big : 16777216 ≤ sizeLine := by decide
  have nl1 : ("\n" : Str).length = 1 := by decide +kernel
  have bl1 : (" " : Str).length = 1 := by decide +kernel
  walk_at "zz"
  refine loop_range (fun i σ' H' => Same H H' ∧ ∃ x1 x2 x3 x4 x5 x6 x7 x8 x9 x10 x11 x12 x13 x14 : Option V, σ' = [some (V.ref a), x1, x2, x3, x4, x5, x6, x7, x8, x9, x10, x11, x12, x13, x14]) ⟨Same.refl H, _, _, _, _, _, _, _, _, _, _, _, _, _, _, rfl⟩ ?_ ?_
  · rintro i σ' H1 hi ⟨S1, x1, x2, x3, x4, x5, x6, x7, x8, x9, x10, x11, x12, x13, x14, rfl⟩
    have hi3 : i < 2 := hi
    rw [show (0 : Int) + (i : Int) = i by omega]
    walk_at "zz"
    refine cl_Lpen ⟨a, ns, i, rfl, rfl, by omega, hS.same S1, fun p H2 S2 hp0 P2 => ?_⟩
    have hpH := S1.free hp0
    walk_at "zz"
    refine cl_Lprogram ⟨p, 4, 6, 0, rfl, rfl, rfl, by decide, by decide, by decide, by decide, by decide, P2, fun nm hs bs u tn ls ll vs us H3 B3 P3 hu htn N hls0 hls hll0 hll L PO hm el => ?_⟩
    have S03 : Same H H3 := same_own (S1.trans S2) B3 hpH
    have nl := PO.n.l
    have h1 := PO.h.1
    refine s_gun_t (SqT.of hu) rfl ?_
    walk_at "zz"
    refine cl_Llone ⟨ll, us, nm, hs, bs, rfl, hll, L, PO, fun l4 vs4 Ls H4 S4 hl40 hl4 L4 PL => ?_⟩
    have S04 := S03.trans S4
    walk_at "zz"
    have plok : ∀ l ∈ Ls, WsOK l ∧ l.length ≤ 200 := fun l hl => by
      obtain ⟨j, hj⟩ := List.mem_iff_getElem?.mp hl
      have hjl := (List.getElem?_eq_some_iff.mp hj).1
      have al := PL.l
      obtain ⟨hh, n', _, _, e5, _, _, _, b3, _, b7⟩ := PL.get (i := j) (by omega)
      have W := (PL.ws (i := j + 1) (by omega)).1
      rw [flatten_take hj] at W
      refine ⟨fun w hw => W w (List.mem_append_right _ hw), ?_⟩
      rw [hj] at e5
      rw [Option.some.inj e5]
      unfold lnP
      simp only [List.length_cons, List.length_append, List.length_nil, List.length_take, List.length_drop]
      omega
    have al := PL.l
    obtain ⟨ft, fw, fl⟩ := fit_lines plok (by omega)
    have lv4 := L4.len
    refine lc_lst vs4 (fun D j H' => Same H4 H' ∧ H4 D = none ∧ H' D = some (.lst (((Ls.take j).map (Txt.join " ")).map V.str))) (fun D hD => ⟨same_new hD, hD, upd_same⟩) (fun D j H' hD hj z => SqL.of (z.1 _ _ hl4)) (fun D j v H' hD hv ⟨S, hDn, hd⟩ => ?_) (fun D H5 hD ⟨S5, hDn, hd⟩ => ?_)
    · obtain ⟨b, l, rfl, el, hb⟩ := L4.get hv
      obtain ⟨o1, o2⟩ := plok l (List.mem_of_getElem? el)
      walk_at "zz"
      refine s_join_l (SqL.of (S _ _ hb)) (fit_line o1 o2).2.2.1 ?_
      refine c_acc hd (by rw [List.length_map, List.length_map, List.length_take]; exact Nat.lt_of_lt_of_le (show _ < 100 by omega) (by decide)) fun H8 B8 h8 => ?_
      refine ⟨same_own S B8 hDn, hDn, ?_⟩
      rw [h8, List.take_add_one, el]
      simp
    rw [lv4, List.take_length] at hd
    have S05 := S04.trans S5
    walk_at "zz"
    refine s_join_l (SqL.of hd) fl ?_
    obtain ⟨rr, er⟩ := plain_read PL
    refine cl_Lcaught ⟨TT.same S05, .inr ⟨_, rr, rfl, ft, by rw [fw]; exact er, fun H6 S6 => ?_⟩⟩
    walk_at "zz"
    have S36 := (S4.trans S5).trans S6
    have P6 : Pl 200000 H6 p := (P3.same S36).le (by omega)
    have L6 := L4.same (S5.trans S6)
    have hl46 := S6 _ _ (S5 _ _ hl4)
    have htn6 := S36 _ _ htn
    have N6 := N.mono (TupS.of S36)
    have nl4 : l4 ≠ p := P3.ne hl40
    obtain ⟨pa, pb, pc, _, _, _, hpp⟩ := id P6
    have tups : ∀ {H' : Hp}, But p H6 H' → TupS H6 H' := fun B => TupS.but B hpp (by simp)
    have nll : ll ≠ p := P2.ne hll0
    have hll6 := S36 _ _ hll
    have LL6 := L.same S36
    refine loop_range (fun j σ' H' => But p H6 H' ∧ Pl (200000 + 10 * (j : Int)) H' p ∧ ∃ x7 x8 x9 : Option V, σ' = [some (V.ref a), some (.int (i : Int)), some (.ref p), some (.ref tn), some (.ref ls), some (.ref ll), some (.ref l4), x7, x8, x9, x10, x11, x12, x13, x14]) ⟨But.refl _ _, P6.le (by omega), _, _, _, rfl⟩ ?_ ?_
    · rintro j σ' H7 hj ⟨B7, P7, x7, x8, x9, rfl⟩
      have hj8 : j < 8 := hj
      have plne : ∀ l ∈ Ls, l ≠ [] := fun l hl => by
        obtain ⟨j, hj⟩ := List.mem_iff_getElem?.mp hl
        have hjl := (List.getElem?_eq_some_iff.mp hj).1
        obtain ⟨_, _, _, _, e5, _⟩ := PL.get (i := j) (by omega)
        rw [hj] at e5
        rw [Option.some.inj e5]
        unfold lnP
        simp
      walk_at "zz"
      refine cl_Lspoilt ⟨p, tn, l4, vs, vs4, nm, hs, Ls, _, rfl, rfl, rfl, tups B7 _ _ htn6, N6.mono (tups B7), B7.rd nl4 hl46, L6.far hpp (fun w r => by simp) B7 plne, PL, by omega, P7, by omega, fun t l ws x H8 B8 P8 ht hl rd wok wl => ?_⟩
      refine s_gun_t (SqT.of ht) rfl ?_
      walk_at "zz"
      obtain ⟨f1, f2, f3, _⟩ := fit_line wok wl
      refine s_join_l (SqL.of hl) f3 ?_
      have B68 := B7.trans B8
      have TT8 := TT.same (same_own ((S05.trans S6)) B68 hpH)
      refine cl_Lcaught ⟨TT8, .inl ⟨x, .inr ⟨_, rfl, f1, by rw [f2]; exact rd⟩, fun pe d H9 S9 kp => ?_⟩⟩
      walk_at "zz"
      refine cl_Lright ⟨pe, d, x, rfl, rfl, kp, fun H10 S10 => ?_⟩
      walk_at "zz"
      exact ⟨(B68.trans (.of S9)).trans (.of S10), ((P8.same S9).same S10).le (by omega), _, _, _, rfl⟩
    rintro σ' H7 ⟨B7, P7, x7, x8, x9, rfl⟩
    have hll7 := B7.rd nll hll6
    have htn7 := tups B7 _ _ htn6
    have N7 := N6.mono (tups B7)
    have LL7 : LinesG H7 (lineW nm hs nm bs) us := LL6.far hpp (fun w r => by simp) B7 lineW_ne
    walk_at "zz"
    intro lc hlc
    rw [show (1 : Int) = ((1 : Nat) : Int) from rfl, cut_takeX]
    generalize hU : L2.upd H7 lc _ = H8
    have S8 : _root_.Z.Same H7 H8 := hU ▸ _root_.Z.same_new hlc
    have h8 := (congrFun hU lc).symm
    rw [L2.upd_same] at h8
    clear hU
    walk_at "zz"
    intro le hle
    generalize hU : L2.upd H8 le _ = H9
    have S9 : _root_.Z.Same H8 H9 := hU ▸ _root_.Z.same_new hle
    have h9 := (congrFun hU le).symm
    rw [L2.upd_same] at h9
    clear hU
    walk_at "zz"
    obtain ⟨h0, eh0⟩ : ∃ x, hs[0]? = some x := ⟨_, List.getElem?_eq_getElem (by omega)⟩
    obtain ⟨n0, en0⟩ : ∃ x, nm[0]? = some x := ⟨_, List.getElem?_eq_getElem (by omega)⟩
    obtain ⟨b0, eb0⟩ : ∃ x, bs[0]? = some x := ⟨_, List.getElem?_eq_getElem (by have := PO.l; omega)⟩
    have eW := lineW_get (all := nm) eh0 en0 eb0
    obtain ⟨v0, hv0⟩ : ∃ x, us[0]? = some x := ⟨_, List.getElem?_eq_getElem (by rw [LL7.len, lineW_lenE PO.al]; omega)⟩
    obtain ⟨a0', l0, rfl, el0, ha0⟩ := LL7.get hv0
    rw [eW] at el0
    cases el0
    have t1 : us.take 1 = [.ref a0'] := by
      cases us with
      | nil => cases hv0
      | cons x r => cases hv0; rfl
    rw [t1] at h8
    obtain ⟨q1, q2, q3, q4, q5, q6⟩ := PO.h.2.2 0 h0 eh0 |> fun z => (⟨z.1, z.2.1, z.2.2.1, z.2.2.2, trivial, trivial⟩ : _ ∧ _ ∧ _ ∧ _ ∧ True ∧ True)
    have hz : h0.1 = 0 := by
      have : h0.1 ≤ 0 := q2
      omega
    obtain ⟨nn1, nn2, nn3⟩ := PO.n.n _ (List.mem_of_getElem? en0)
    have nb := PO.n.b 0 _ _ en0 eh0
    have ew : funW nm h0 n0 b0 = ("fun" : Str) :: n0.1 :: ("with" : Str) :: (n0.2 ++ ("is" : Str) :: wordsN nm n0.2 b0) := by
      show ("fun" : Str) :: n0.1 :: (n0.2.take h0.1.toNat ++ ("with" : Str) :: (n0.2.drop h0.1.toNat ++ ("is" : Str) :: wordsN nm n0.2 b0)) = _
      rw [hz]
      rfl
    have fs := (prg_small PO 0 h0 n0 b0 eh0 en0 eb0).1
    have wo : WsOK (funW nm h0 n0 b0) := (prg_lines PO).1 _ (List.mem_of_getElem? eW) |>.2
    have encl : (enc b0).length ≤ 1000 := by
      have := encs_memw (List.mem_of_getElem? eb0)
      omega
    refine s_sumL [(funW nm h0 n0 b0).map V.str] (S9 _ _ h8) h9 rfl (fun j v hv => ?_) (by simp only [List.flatten_cons, List.flatten_nil, List.append_nil, List.length_map]; exact Nat.le_trans (show _ ≤ 1000000 by omega) (by decide)) fun lw H10 S10 hlw0 hlw => ?_
    · cases j with
      | zero => cases hv; exact ⟨_, _, rfl, rfl, S9 _ _ (S8 _ _ ha0)⟩
      | succ j => cases hv
    rw [List.flatten_cons, List.flatten_nil, List.append_nil] at hlw
    walk_at "zz"
    have P10 := ((P7.same S8).same S9).same S10
    have S710 := (S8.trans S9).trans S10
    have nlw : lw ≠ p := by
      rcases hlw0 with z | z
      · exact ((P7.same S8).same S9).ne z
      · rw [z]; exact (P7.same S8).ne hle
    obtain ⟨v1, hv1⟩ : ∃ x, vs[0]? = some x := ⟨_, List.getElem?_eq_getElem (by rw [N.len]; omega)⟩
    obtain ⟨w1, bx1, tn1, tb1, en1, rfl, htn1, htb1⟩ := (N7.mono (TupS.of S710)).get hv1
    rw [en0] at en1
    cases en1
    refine s_ixTN (m := 0) (SqT.of (S710 _ _ htn7)) hv1 ?_
    walk_at "zz"
    refine s_ixTN (m := 1) (SqT.of htn1) rfl ?_
    walk_at "zz"
    rw [List.length_map]
    refine cl_Ldraw ⟨p, _, 200000 + 10 * (8 : Nat), rfl, rfl, by omega, Int.lt_of_le_of_lt (show _ ≤ 100 by dsimp only at nb; omega) (by decide +kernel), by decide, P10, fun v H11 y0 y1 P11 B11 => ?_⟩
    walk_at "zz"
    obtain ⟨m, rfl⟩ : ∃ m : Nat, v = (m : Int) := ⟨v.toNat, by omega⟩
    intro lx hlx
    rw [show ((1 : Nat) : Int) + (m : Int) = ((m + 1 : Nat) : Int) by omega, cut_takeS]
    generalize hU : L2.upd H11 lx _ = H12
    have S12 : _root_.Z.Same H11 H12 := hU ▸ _root_.Z.same_new hlx
    have h12 := (congrFun hU lx).symm
    rw [L2.upd_same] at h12
    clear hU
    walk_at "zz"
    obtain ⟨c1, c2⟩ := cut_read (n := (w1, bx1)) (W := wordsN nm bx1 b0) nn1 nn2 nn3 (by dsimp only at nb ⊢; omega) (c := m + 1) (by omega) (by dsimp only; omega)
    rw [← ew] at c1 c2
    obtain ⟨f1, f2, f3, _⟩ := fit_line (ws := (funW nm h0 (w1, bx1) b0).take (m + 1)) (fun w hw => wo w (List.mem_of_mem_take hw)) (by rw [c2]; dsimp only at nb; omega)
    refine s_join_l (SqL.of h12) f3 ?_
    have B712 := ((But.of S710).trans B11).trans (.of S12)
    have S012 := same_own (S05.trans S6) (B7.trans B712) hpH
    refine cl_Lcaught ⟨TT.same S012, .inl ⟨m + 1, .inr ⟨_, rfl, f1, by rw [f2]; exact c1⟩, fun pe d H13 S13 kp => ?_⟩⟩
    walk_at "zz"
    rw [List.length_map, c2]
    refine cl_Lright ⟨pe, d, m + 1, rfl, rfl, kp, fun H14 S14 => ?_⟩
    walk_at "zz"
    exact ⟨(S012.trans S13).trans S14, _, _, _, _, _, _, _, _, _, _, _, _, _, _, rfl⟩
  rintro σ' H1 ⟨S1, x1, x2, x3, x4, x5, x6, x7, x8, x9, x10, x11, x12, x13, x14, rfl⟩
  walk_at "zz"
  refine cl_Ltexts fun lt vt H2 S2 hlt0 hlt A => ?_
  walk_at "zz"
  refine loop_list vt (fun i σ' H' => Same H2 H' ∧ ∃ x1 x2 x3 x4 x5 x6 x7 x8 x9 x10 x11 x12 x13 x14 : Option V, σ' = [some (V.ref a), x1, x2, x3, x4, x5, x6, x7, x8, x9, x10, x11, x12, x13, x14]) ⟨Same.refl H2, _, _, _, _, _, _, _, _, _, _, _, _, _, _, rfl⟩ (fun i σ' H' hi z => SqL.of (z.1 _ _ hlt)) ?_ ?_
  · rintro i v σ' H3 hv ⟨S3, x1, x2, x3, x4, x5, x6, x7, x8, x9, x10, x11, x12, x13, x14, rfl⟩
    obtain ⟨t, ⟨tx, oi⟩, rfl, ee, ht⟩ := A.get hv
    have ok := List.all_eq_true.mp TXS_all _ (List.mem_of_getElem? ee)
    simp only [Bool.and_eq_true, decide_eq_true_eq] at ok
    have ft : FitT tx := ⟨by omega, ok.1.2⟩
    have eo := ok.1.1
    have TT3 := TT.same ((S1.trans S2).trans S3)
    refine s_gun_t (SqT.of (S3 _ _ ht)) rfl ?_
    walk_at "zz"
    cases oi with
    | none =>
      obtain ⟨r, er⟩ : ∃ r, readW (wordsT tx) = .ok r := by
        cases e : readW (wordsT tx) with
        | ok r => exact ⟨r, rfl⟩
        | error x => rw [e] at eo; cases eo
      refine cl_Lcaught ⟨TT3, .inr ⟨tx, r, rfl, ft, er, fun H4 S4 => ?_⟩⟩
      walk_at "zz"
      exact ⟨S3.trans S4, _, _, _, _, _, _, _, _, _, _, _, _, _, _, rfl⟩
    | some x =>
      refine cl_Lcaught ⟨TT3, .inl ⟨x, .inr ⟨tx, rfl, ft, errOf_some eo⟩, fun pe d H4 S4 kp => ?_⟩⟩
      walk_at "zz"
      refine cl_Lright ⟨pe, d, x, rfl, rfl, kp, fun H5 S5 => ?_⟩
      walk_at "zz"
      exact ⟨(S3.trans S4).trans S5, _, _, _, _, _, _, _, _, _, _, _, _, _, _, rfl⟩
  rintro σ' H3 ⟨S3, x1, x2, x3, x4, x5, x6, x7, x8, x9, x10, x11, x12, x13, x14, rfl⟩
  walk_at "zz"
  have S03 := (S1.trans S2).trans S3
  intro a1 ha1
  generalize hU : L2.upd H3 a1 _ = G1
  have T1 : _root_.Z.Same H3 G1 := hU ▸ _root_.Z.same_new ha1
  have g1 := (congrFun hU a1).symm
  rw [L2.upd_same] at g1
  clear hU
  walk_at "zz"
  intro a2 ha2
  generalize hU : L2.upd G1 a2 _ = G2
  have T2 : _root_.Z.Same G1 G2 := hU ▸ _root_.Z.same_new ha2
  have g2 := (congrFun hU a2).symm
  rw [L2.upd_same] at g2
  clear hU
  walk_at "zz"
  intro a3 ha3
  generalize hU : L2.upd G2 a3 _ = G3
  have T3 : _root_.Z.Same G2 G3 := hU ▸ _root_.Z.same_new ha3
  have g3 := (congrFun hU a3).symm
  rw [L2.upd_same] at g3
  clear hU
  walk_at "zz"
  intro a4 ha4
  generalize hU : L2.upd G3 a4 _ = G4
  have T4 : _root_.Z.Same G3 G4 := hU ▸ _root_.Z.same_new ha4
  have g4 := (congrFun hU a4).symm
  rw [L2.upd_same] at g4
  clear hU
  walk_at "zz"
  intro a5 ha5
  generalize hU : L2.upd G4 a5 _ = G5
  have T5 : _root_.Z.Same G4 G5 := hU ▸ _root_.Z.same_new ha5
  have g5 := (congrFun hU a5).symm
  rw [L2.upd_same] at g5
  clear hU
  walk_at "zz"
  have S05 := ((((S03.trans T1).trans T2).trans T3).trans T4).trans T5
  refine loop_list _ (fun i σ' H' => Same G5 H' ∧ ∃ x1 x2 x3 x4 x5 x6 x7 x8 x9 x10 x11 x12 x13 x14 : Option V, σ' = [some (V.ref a), x1, x2, x3, x4, x5, x6, x7, x8, x9, x10, x11, x12, x13, x14]) ⟨Same.refl _, _, _, _, _, _, _, _, _, _, _, _, _, _, _, rfl⟩ (fun i σ' H' hi z => SqL.of (z.1 _ _ g5)) ?_ ?_
  · rintro i x σ' H6 hx ⟨S6, x1, x2, x3, x4, x5, x6, x7, x8, x9, x10, x11, x12, x13, x14, rfl⟩
    have hx := List.mem_of_getElem? hx
    have ref : NoStr H6 x := by
      simp only [List.mem_cons, List.not_mem_nil, or_false] at hx
      rcases hx with e | e | e | e | e | e | e <;> subst e
      · exact .inl rfl
      · exact .inr (.inl ⟨_, rfl⟩)
      · exact .inr (.inr (.inl ⟨_, rfl⟩))
      · exact .inr (.inr (.inr (.inl ⟨_, _, rfl, S6 _ _ (T5 _ _ (T4 _ _ (T3 _ _ (T2 _ _ g1))))⟩)))
      · exact .inr (.inr (.inr (.inl ⟨_, _, rfl, S6 _ _ (T5 _ _ (T4 _ _ (T3 _ _ g2)))⟩)))
      · exact .inr (.inr (.inr (.inr (.inl ⟨_, _, rfl, S6 _ _ (T5 _ _ (T4 _ _ g3))⟩))))
      · exact .inr (.inr (.inr (.inr (.inr ⟨_, _, rfl, S6 _ _ (T5 _ _ g4)⟩))))
    walk_at "zz"
    refine cl_Lcaught ⟨TT.same (S05.trans S6), .inl ⟨0, .inl ⟨ref, rfl⟩, fun pe d H7 S7 kp => ?_⟩⟩
    walk_at "zz"
    refine cl_Lright ⟨pe, d, 0, rfl, rfl, kp, fun H8 S8 => ?_⟩
    walk_at "zz"
    exact ⟨(S6.trans S7).trans S8, _, _, _, _, _, _, _, _, _, _, _, _, _, _, rfl⟩
  rintro σ' H6 ⟨S6, x1, x2, x3, x4, x5, x6, x7, x8, x9, x10, x11, x12, x13, x14, rfl⟩
  have e1 : errOf (readW (wordsT "")) = some 0 ∧ FitT "" := by unfold FitT; decide +kernel
  have e2 : errOf (readW (wordsT " \n ")) = some 0 ∧ FitT " \n " := by unfold FitT; decide +kernel
  walk_at "zz"
  refine cl_Lcaught ⟨TT.same (S05.trans S6), .inl ⟨0, .inr ⟨"", rfl, e1.2, errOf_some e1.1⟩, fun pe d H7 S7 kp => ?_⟩⟩
  walk_at "zz"
  refine cl_Lright ⟨pe, d, 0, rfl, rfl, kp, fun H8 S8 => ?_⟩
  walk_at "zz"
  refine cl_Lcaught ⟨TT.same (((S05.trans S6).trans S7).trans S8), .inl ⟨0, .inr ⟨" \n ", rfl, e2.2, errOf_some e2.1⟩, fun pe d H9 S9 kp => ?_⟩⟩
  walk_at "zz"
  refine cl_Lright ⟨pe, d, 0, rfl, rfl, kp, fun H10 S10 => ?_⟩
  walk_at "zz"
  exact q _

theorem sc_NoText_init : FnScope nm_NoText_init ["self", "at"] (defScope st_NoText_init) := ⟨rfl, rfl, rfl, by decide +kernel, rfl, by decide +kernel, by decide +kernel⟩
theorem ok_NoText_init {P : Program} {w : World} {base : Heap} {Z : Adr} (T : Top Z) (TB : TBs base Z)  : FnOk P w Z.K Z.mg base (L2.CX P w) 1 Z.f_NoText_init Z.d_NoText_init ["self", "at"] (sp_NoText_init Z) := by
  refine FnOk.mono (T.F_NoText_init.okX (k := 0) sc_NoText_init (fun vs H Q E h => ?_) (fun cdv A outer s H vs Q E hr h => ?_)) (by decide)
  · obtain ⟨a0, a1, rfl, _⟩ := h; rfl
  · obtain ⟨a0, a1, rfl, h⟩ := h
    have tk : Takes (cxOf (L2.CX P w) P w Z.K Z.mg base nm_NoText_init "NoText.__init__" (defScope st_NoText_init) Z.f_NoText_init cdv A outer s H E) (fun cls d _ H => E cls d H) := takes_of rfl rfl rfl rfl
    have po : PassesOwn (model P w) (cxOf (L2.CX P w) P w Z.K Z.mg base nm_NoText_init "NoText.__init__" (defScope st_NoText_init) Z.f_NoText_init cdv A outer s H E).A (cxOf (L2.CX P w) P w Z.K Z.mg base nm_NoText_init "NoText.__init__" (defScope st_NoText_init) Z.f_NoText_init cdv A outer s H E).env (cxOf (L2.CX P w) P w Z.K Z.mg base nm_NoText_init "NoText.__init__" (defScope st_NoText_init) Z.f_NoText_init cdv A outer s H E).xe := passes_of rfl
    refine ⟨t_NoText_init Z (fun cls d _ H => E cls d H), ?_, rd_NoText_init T h⟩
    exact (pss_cons (ps_expr (pe_cinit rfl T.g_ChainError T.ri_ChainError T.rs_ChainError T.rv_ChainError (pa_cons (pv 0) (pa_cons pe_str pa_nil))))
      (pss_one (ps_ost (pv 0) (pv 1) rfl)))

theorem sc_word_of : FnScope nm_word_of ["kind"] (defScope st_word_of) := ⟨rfl, rfl, rfl, by decide +kernel, rfl, by decide +kernel, by decide +kernel⟩
theorem ok_word_of {P : Program} {w : World} {base : Heap} {Z : Adr} (T : Top Z) (TB : TBs base Z)  : FnOk P w Z.K Z.mg base (L2.CX P w) 1 Z.f_word_of Z.d_word_of ["kind"] (sp_word_of Z) := by
  refine FnOk.mono (T.F_word_of.okX (k := 0) sc_word_of (fun vs H Q E h => ?_) (fun cdv A outer s H vs Q E hr h => ?_)) (by decide)
  · obtain ⟨a0, rfl, _⟩ := h; rfl
  · obtain ⟨a0, rfl, h⟩ := h
    have tk : Takes (cxOf (L2.CX P w) P w Z.K Z.mg base nm_word_of "word_of" (defScope st_word_of) Z.f_word_of cdv A outer s H E) (fun cls d _ H => E cls d H) := takes_of rfl rfl rfl rfl
    have po : PassesOwn (model P w) (cxOf (L2.CX P w) P w Z.K Z.mg base nm_word_of "word_of" (defScope st_word_of) Z.f_word_of cdv A outer s H E).A (cxOf (L2.CX P w) P w Z.K Z.mg base nm_word_of "word_of" (defScope st_word_of) Z.f_word_of cdv A outer s H E).env (cxOf (L2.CX P w) P w Z.K Z.mg base nm_word_of "word_of" (defScope st_word_of) Z.f_word_of cdv A outer s H E).xe := passes_of rfl
    refine ⟨t_word_of Z (fun cls d _ H => E cls d H), ?_, rd_word_of T h⟩
    exact (pss_one (ps_ret (pe_ix ix_seq (pe_op op_addU (pe_glob rfl T.g_EARLY rfl) (pe_glob rfl T.g_LATE rfl)) (pe_op op_sub (pv 0) (pe_glob rfl T.g_SET ⟨_, rfl⟩)) (fun _ _ => rfl))))

theorem sc_kind_of : FnScope nm_kind_of ["word"] (defScope st_kind_of) := ⟨rfl, rfl, rfl, by decide +kernel, rfl, by decide +kernel, by decide +kernel⟩
theorem ok_kind_of {P : Program} {w : World} {base : Heap} {Z : Adr} (T : Top Z) (TB : TBs base Z) (G_word_of : FnOk P w Z.K Z.mg base (L2.CX P w) 1 Z.f_word_of Z.d_word_of ["kind"] (sp_word_of Z)) : FnOk P w Z.K Z.mg base (L2.CX P w) 2 Z.f_kind_of Z.d_kind_of ["word"] (sp_kind_of Z) := by
  refine FnOk.mono (T.F_kind_of.okX (k := 1) sc_kind_of (fun vs H Q E h => ?_) (fun cdv A outer s H vs Q E hr h => ?_)) (by decide)
  · obtain ⟨a0, rfl, _⟩ := h; rfl
  · obtain ⟨a0, rfl, h⟩ := h
    have tk : Takes (cxOf (L2.CX P w) P w Z.K Z.mg base nm_kind_of "kind_of" (defScope st_kind_of) Z.f_kind_of cdv A outer s H E) (fun cls d _ H => E cls d H) := takes_of rfl rfl rfl rfl
    have po : PassesOwn (model P w) (cxOf (L2.CX P w) P w Z.K Z.mg base nm_kind_of "kind_of" (defScope st_kind_of) Z.f_kind_of cdv A outer s H E).A (cxOf (L2.CX P w) P w Z.K Z.mg base nm_kind_of "kind_of" (defScope st_kind_of) Z.f_kind_of cdv A outer s H E).env (cxOf (L2.CX P w) P w Z.K Z.mg base nm_kind_of "kind_of" (defScope st_kind_of) Z.f_kind_of cdv A outer s H E).xe := passes_of rfl
    refine ⟨t_kind_of Z (fun cls d _ H => E cls d H), ?_, rd_kind_of T h⟩
    exact (pss_cons (ps_for po rfl (pi_range2 rfl T.n_range (pa_cons (pe_glob rfl T.g_SET ⟨_, rfl⟩) (pa_cons (pe_op op_addU (pe_glob rfl T.g_NEW ⟨_, rfl⟩) pe_int) pa_nil))) (pg_name (i := 1) sc_kind_of.nd rfl (Or.inl rfl)) (pss_one (ps_if (pt_cmpR (op_eqU (hr.units)) (pe_callS G_word_of (hr.mono (by decide)) rfl T.m_word_of T.k_word_of T.b_word_of (fun σ => passAt tk σ) (pa_cons (pv 1) pa_nil)) (pv 0) (nomark _)) (pss_one (ps_ret (pv 1))) pss_nil)))
      (pss_one (ps_ret pe_non)))

theorem sc_parts_of : FnScope nm_parts_of ["kind"] (defScope st_parts_of) := ⟨rfl, rfl, rfl, by decide +kernel, rfl, by decide +kernel, by decide +kernel⟩
theorem ok_parts_of {P : Program} {w : World} {base : Heap} {Z : Adr} (T : Top Z) (TB : TBs base Z)  : FnOk P w Z.K Z.mg base (L2.CX P w) 1 Z.f_parts_of Z.d_parts_of ["kind"] (sp_parts_of Z) := by
  refine FnOk.mono (T.F_parts_of.okX (k := 0) sc_parts_of (fun vs H Q E h => ?_) (fun cdv A outer s H vs Q E hr h => ?_)) (by decide)
  · obtain ⟨a0, rfl, _⟩ := h; rfl
  · obtain ⟨a0, rfl, h⟩ := h
    have tk : Takes (cxOf (L2.CX P w) P w Z.K Z.mg base nm_parts_of "parts_of" (defScope st_parts_of) Z.f_parts_of cdv A outer s H E) (fun cls d _ H => E cls d H) := takes_of rfl rfl rfl rfl
    have po : PassesOwn (model P w) (cxOf (L2.CX P w) P w Z.K Z.mg base nm_parts_of "parts_of" (defScope st_parts_of) Z.f_parts_of cdv A outer s H E).A (cxOf (L2.CX P w) P w Z.K Z.mg base nm_parts_of "parts_of" (defScope st_parts_of) Z.f_parts_of cdv A outer s H E).env (cxOf (L2.CX P w) P w Z.K Z.mg base nm_parts_of "parts_of" (defScope st_parts_of) Z.f_parts_of cdv A outer s H E).xe := passes_of rfl
    refine ⟨t_parts_of Z (fun cls d _ H => E cls d H), ?_, rd_parts_of T h⟩
    exact (pss_cons (ps_if (pt_cmpR (op_eqU (hr.units)) (pv 0) (pe_glob rfl T.g_NEW ⟨_, rfl⟩) (nomark _)) (pss_one (ps_ret pe_int)) pss_nil)
      (pss_cons (ps_if (pt_cmpR op_in_seq (pv 0) (pe_tup (pa_cons (pe_glob rfl T.g_FAIL ⟨_, rfl⟩) (pa_cons (pe_glob rfl T.g_SIZE ⟨_, rfl⟩) pa_nil))) (by rfl)) (pss_one (ps_ret pe_int)) pss_nil)
      (pss_cons (ps_if (pt_cmpR (op_eqU (hr.units)) (pv 0) (pe_glob rfl T.g_PUT ⟨_, rfl⟩) (nomark _)) (pss_one (ps_ret pe_int)) pss_nil)
      (pss_one (ps_ret pe_int)))))

theorem sc_is_of : FnScope nm_is_of ["word", "signs", "most"] (defScope st_is_of) := ⟨rfl, rfl, rfl, by decide +kernel, rfl, by decide +kernel, by decide +kernel⟩
theorem ok_is_of {P : Program} {w : World} {base : Heap} {Z : Adr} (T : Top Z) (TB : TBs base Z)  : FnOk P w Z.K Z.mg base (L2.CX P w) 1 Z.f_is_of Z.d_is_of ["word", "signs", "most"] (sp_is_of Z) := by
  refine FnOk.mono (T.F_is_of.okX (k := 0) sc_is_of (fun vs H Q E h => ?_) (fun cdv A outer s H vs Q E hr h => ?_)) (by decide)
  · obtain ⟨a0, a1, a2, rfl, _⟩ := h; rfl
  · obtain ⟨a0, a1, a2, rfl, h⟩ := h
    have tk : Takes (cxOf (L2.CX P w) P w Z.K Z.mg base nm_is_of "is_of" (defScope st_is_of) Z.f_is_of cdv A outer s H E) (fun cls d _ H => E cls d H) := takes_of rfl rfl rfl rfl
    have po : PassesOwn (model P w) (cxOf (L2.CX P w) P w Z.K Z.mg base nm_is_of "is_of" (defScope st_is_of) Z.f_is_of cdv A outer s H E).A (cxOf (L2.CX P w) P w Z.K Z.mg base nm_is_of "is_of" (defScope st_is_of) Z.f_is_of cdv A outer s H E).env (cxOf (L2.CX P w) P w Z.K Z.mg base nm_is_of "is_of" (defScope st_is_of) Z.f_is_of cdv A outer s H E).xe := passes_of rfl
    refine ⟨t_is_of Z (fun cls d _ H => E cls d H), ?_, rd_is_of T h⟩
    exact (pss_cons (ps_if (pt_not (pt_chain op_le op_le pe_int (pe_callB call_len' (by rfl) T.n_len (by decide +kernel) (pa_cons (pv 0) pa_nil)) (pv 2))) (pss_one (ps_ret pe_bl)) pss_nil)
      (pss_cons (ps_for po rfl (pi_str (pv 0)) (pg_name (i := 3) sc_is_of.nd rfl (Or.inl rfl)) (pss_one (ps_if (pt_cmpR op_notIn_sign' (pv 3) (pv 1) (by rfl)) (pss_one (ps_ret pe_bl)) pss_nil)))
      (pss_one (ps_ret pe_bl))))

theorem sc_is_name : FnScope nm_is_name ["word"] (defScope st_is_name) := ⟨rfl, rfl, rfl, by decide +kernel, rfl, by decide +kernel, by decide +kernel⟩
theorem ok_is_name {P : Program} {w : World} {base : Heap} {Z : Adr} (T : Top Z) (TB : TBs base Z) (G_kind_of : FnOk P w Z.K Z.mg base (L2.CX P w) 2 Z.f_kind_of Z.d_kind_of ["word"] (sp_kind_of Z)) (G_is_of : FnOk P w Z.K Z.mg base (L2.CX P w) 1 Z.f_is_of Z.d_is_of ["word", "signs", "most"] (sp_is_of Z)) : FnOk P w Z.K Z.mg base (L2.CX P w) 3 Z.f_is_name Z.d_is_name ["word"] (sp_is_name Z) := by
  refine FnOk.mono (T.F_is_name.okX (k := 2) sc_is_name (fun vs H Q E h => ?_) (fun cdv A outer s H vs Q E hr h => ?_)) (by decide)
  · obtain ⟨a0, rfl, _⟩ := h; rfl
  · obtain ⟨a0, rfl, h⟩ := h
    have tk : Takes (cxOf (L2.CX P w) P w Z.K Z.mg base nm_is_name "is_name" (defScope st_is_name) Z.f_is_name cdv A outer s H E) (fun cls d _ H => E cls d H) := takes_of rfl rfl rfl rfl
    have po : PassesOwn (model P w) (cxOf (L2.CX P w) P w Z.K Z.mg base nm_is_name "is_name" (defScope st_is_name) Z.f_is_name cdv A outer s H E).A (cxOf (L2.CX P w) P w Z.K Z.mg base nm_is_name "is_name" (defScope st_is_name) Z.f_is_name cdv A outer s H E).env (cxOf (L2.CX P w) P w Z.K Z.mg base nm_is_name "is_name" (defScope st_is_name) Z.f_is_name cdv A outer s H E).xe := passes_of rfl
    refine ⟨t_is_name Z (fun cls d _ H => E cls d H), ?_, rd_is_name T h⟩
    exact (pss_cons (ps_if (PW.pt (pw_or (pt_cmpR op_in_seq (pv 0) (pe_tup (pa_cons pe_str (pa_cons pe_str (pa_cons pe_str pa_nil)))) (by rfl)) (pw_or1 (pt_cmpR op_notU (pe_callS G_kind_of (hr.mono (by decide)) rfl T.m_kind_of T.k_kind_of T.b_kind_of (fun σ => passAt tk σ) (pa_cons (pv 0) pa_nil)) pe_non (nomark _))))) (pss_one (ps_ret pe_bl)) pss_nil)
      (pss_one (ps_ret (pe_callS G_is_of (hr.mono (by decide)) rfl T.m_is_of T.k_is_of T.b_is_of (fun σ => passAt tk σ) (pa_cons (pv 0) (pa_cons (pe_glob rfl T.g_LETTERS ⟨_, rfl⟩) (pa_cons (pe_glob rfl T.g_MOST_LETTERS ⟨_, rfl⟩) pa_nil)))))))

theorem sc_is_number_of : FnScope nm_is_number_of ["word", "most"] (defScope st_is_number_of) := ⟨rfl, rfl, rfl, by decide +kernel, rfl, by decide +kernel, by decide +kernel⟩
theorem ok_is_number_of {P : Program} {w : World} {base : Heap} {Z : Adr} (T : Top Z) (TB : TBs base Z) (G_is_of : FnOk P w Z.K Z.mg base (L2.CX P w) 1 Z.f_is_of Z.d_is_of ["word", "signs", "most"] (sp_is_of Z)) : FnOk P w Z.K Z.mg base (L2.CX P w) 2 Z.f_is_number_of Z.d_is_number_of ["word", "most"] (sp_is_number_of Z) := by
  refine FnOk.mono (T.F_is_number_of.okX (k := 1) sc_is_number_of (fun vs H Q E h => ?_) (fun cdv A outer s H vs Q E hr h => ?_)) (by decide)
  · obtain ⟨a0, a1, rfl, _⟩ := h; rfl
  · obtain ⟨a0, a1, rfl, h⟩ := h
    have tk : Takes (cxOf (L2.CX P w) P w Z.K Z.mg base nm_is_number_of "is_number_of" (defScope st_is_number_of) Z.f_is_number_of cdv A outer s H E) (fun cls d _ H => E cls d H) := takes_of rfl rfl rfl rfl
    have po : PassesOwn (model P w) (cxOf (L2.CX P w) P w Z.K Z.mg base nm_is_number_of "is_number_of" (defScope st_is_number_of) Z.f_is_number_of cdv A outer s H E).A (cxOf (L2.CX P w) P w Z.K Z.mg base nm_is_number_of "is_number_of" (defScope st_is_number_of) Z.f_is_number_of cdv A outer s H E).env (cxOf (L2.CX P w) P w Z.K Z.mg base nm_is_number_of "is_number_of" (defScope st_is_number_of) Z.f_is_number_of cdv A outer s H E).xe := passes_of rfl
    refine ⟨t_is_number_of Z (fun cls d _ H => E cls d H), ?_, rd_is_number_of T h⟩
    exact (pss_cons (ps_set (i := 2) sc_is_number_of.nd rfl (Or.inl rfl) (pv 0))
      (C8.pss_cut (ps_if (pt_cmpR (op_eqU (hr.units)) (pe_slice sl_str (pv 0) po_none (po_some pe_int)) pe_str (nomark _)) (pss_one (ps_set (i := 2) sc_is_number_of.nd rfl (Or.inl rfl) (pe_slice sl_str (pv 0) (po_some pe_int) po_none))) pss_nil)
      (pss_cons (ps_if (pt_not (pt_val (pe_callS G_is_of (hr.mono (by decide)) rfl T.m_is_of T.k_is_of T.b_is_of (fun σ => passAt tk σ) (pa_cons (pv 2) (pa_cons (pe_glob rfl T.g_FIGURES ⟨_, rfl⟩) (pa_cons (pv 1) pa_nil)))))) (pss_one (ps_ret pe_bl)) pss_nil)
      (pss_one (ps_ret (pe_or (pe_cmpR (op_neU (hr.units)) (pe_ix ix_seq (pv 2) pe_int (fun _ _ => rfl)) pe_str (nomark _)) (pe_one (pe_cmpR (op_eqU (hr.units)) (pv 0) pe_str (nomark _)))))))))

theorem sc_is_number_word : FnScope nm_is_number_word ["word"] (defScope st_is_number_word) := ⟨rfl, rfl, rfl, by decide +kernel, rfl, by decide +kernel, by decide +kernel⟩
theorem ok_is_number_word {P : Program} {w : World} {base : Heap} {Z : Adr} (T : Top Z) (TB : TBs base Z) (G_is_number_of : FnOk P w Z.K Z.mg base (L2.CX P w) 2 Z.f_is_number_of Z.d_is_number_of ["word", "most"] (sp_is_number_of Z)) : FnOk P w Z.K Z.mg base (L2.CX P w) 3 Z.f_is_number_word Z.d_is_number_word ["word"] (sp_is_number_word Z) := by
  refine FnOk.mono (T.F_is_number_word.okX (k := 2) sc_is_number_word (fun vs H Q E h => ?_) (fun cdv A outer s H vs Q E hr h => ?_)) (by decide)
  · obtain ⟨a0, rfl, _⟩ := h; rfl
  · obtain ⟨a0, rfl, h⟩ := h
    have tk : Takes (cxOf (L2.CX P w) P w Z.K Z.mg base nm_is_number_word "is_number_word" (defScope st_is_number_word) Z.f_is_number_word cdv A outer s H E) (fun cls d _ H => E cls d H) := takes_of rfl rfl rfl rfl
    have po : PassesOwn (model P w) (cxOf (L2.CX P w) P w Z.K Z.mg base nm_is_number_word "is_number_word" (defScope st_is_number_word) Z.f_is_number_word cdv A outer s H E).A (cxOf (L2.CX P w) P w Z.K Z.mg base nm_is_number_word "is_number_word" (defScope st_is_number_word) Z.f_is_number_word cdv A outer s H E).env (cxOf (L2.CX P w) P w Z.K Z.mg base nm_is_number_word "is_number_word" (defScope st_is_number_word) Z.f_is_number_word cdv A outer s H E).xe := passes_of rfl
    refine ⟨t_is_number_word Z (fun cls d _ H => E cls d H), ?_, rd_is_number_word T h⟩
    exact (pss_one (ps_ret (pe_callS G_is_number_of (hr.mono (by decide)) rfl T.m_is_number_of T.k_is_number_of T.b_is_number_of (fun σ => passAt tk σ) (pa_cons (pv 0) (pa_cons (pe_glob rfl T.g_MOST_FIGURES ⟨_, rfl⟩) pa_nil)))))

theorem sc_words_of : FnScope nm_words_of ["text"] (defScope st_words_of) := ⟨rfl, rfl, rfl, by decide +kernel, rfl, by decide +kernel, by decide +kernel⟩
theorem ok_words_of {P : Program} {w : World} {base : Heap} {Z : Adr} (T : Top Z) (TB : TBs base Z) (G_NoText_init : FnOk P w Z.K Z.mg base (L2.CX P w) 1 Z.f_NoText_init Z.d_NoText_init ["self", "at"] (sp_NoText_init Z)) : FnOk P w Z.K Z.mg base (L2.CX P w) 3 Z.f_words_of Z.d_words_of ["text"] (sp_words_of Z) := by
  refine FnOk.mono (_root_.Z.okT T.F_words_of (k := 2) sc_words_of (by decide +kernel) (by decide) (fun vs H Q E h => ?_) (fun cdv A outer s H vs Q E hr h => ?_)) (by decide)
  · obtain ⟨a0, rfl, _⟩ := h; rfl
  · obtain ⟨a0, rfl, h⟩ := h
    have tk : Takes (cxOf (L2.CX P w) P w Z.K Z.mg base nm_words_of "words_of" (defScope st_words_of) Z.f_words_of cdv A outer s H E) (fun cls d _ H => E cls d H) := takes_of rfl rfl rfl rfl
    have po : PassesOwn (model P w) (cxOf (L2.CX P w) P w Z.K Z.mg base nm_words_of "words_of" (defScope st_words_of) Z.f_words_of cdv A outer s H E).A (cxOf (L2.CX P w) P w Z.K Z.mg base nm_words_of "words_of" (defScope st_words_of) Z.f_words_of cdv A outer s H E).env (cxOf (L2.CX P w) P w Z.K Z.mg base nm_words_of "words_of" (defScope st_words_of) Z.f_words_of cdv A outer s H E).xe := passes_of rfl
    refine ⟨t_words_of Z (fun cls d _ H => E cls d H), ?_, rd_words_of T h⟩
    exact (psst_cons (PST.of (ps_if (pt_not (pt_val (pe_callB call_isi' (by rfl) T.n_isinstance (by decide +kernel) (pa_cons (pv 0) (pa_cons (pe_bltn (by rfl) T.n_str (by decide +kernel) rfl) pa_nil))))) (pss_one (ps_raiseO rfl tk T.ox_NoText T.oi_NoText T.ot_NoText G_NoText_init (hr.mono (by decide)) T.b_NoText_init passF rfl T.g_NoText (pa_cons pe_int pa_nil))) pss_nil))
      (CwR.psst_one (CwR.pst_ret (pet_lc (own := [(".0", 1), ("word", 2)]) (g := (gName 2)) (tt := (tTest (tOp (rNeU Z.K) (tVar 2) (tC (.str ""))))) rfl sc_words_of.nd (pit_list (pet_bm PySem.F.plainAttrs_str PySem.F.slot_str_split PySem.F.type_str_split mt_split (CwR.pet_replC (pv 0)) (pa_cons pe_str pa_nil))) (blkOk_by (own := [(".0", 1), ("word", 2)]) (N := nm_words_of) (sc := defScope st_words_of) (by decide +kernel)) (fun _ _ _ _ _ => (pg_name (i := 2) sc_words_of.nd rfl (Or.inl rfl))) (fun _ _ _ _ _ => (pts_one (pt_cmpR (op_neU (hr.units)) (pv 2) pe_str (nomark _)))) (fun _ _ _ _ _ => (pv 2))))))

theorem sc_heads_inp : FnScope nm_heads_inp ["words"] (defScope st_heads_inp) := ⟨rfl, rfl, rfl, by decide +kernel, rfl, by decide +kernel, by decide +kernel⟩
theorem ok_heads_inp {P : Program} {w : World} {base : Heap} {Z : Adr} (T : Top Z) (TB : TBs base Z)  : FnOk P w Z.K Z.mg base (L2.CX P w) 1 Z.f_heads_inp Z.d_heads_inp ["words"] (sp_heads_inp Z) := by
  refine FnOk.mono (T.F_heads_inp.okX (k := 0) sc_heads_inp (fun vs H Q E h => ?_) (fun cdv A outer s H vs Q E hr h => ?_)) (by decide)
  · obtain ⟨a0, rfl, _⟩ := h; rfl
  · obtain ⟨a0, rfl, h⟩ := h
    have tk : Takes (cxOf (L2.CX P w) P w Z.K Z.mg base nm_heads_inp "heads_in" (defScope st_heads_inp) Z.f_heads_inp cdv A outer s H E) (fun cls d _ H => E cls d H) := takes_of rfl rfl rfl rfl
    have po : PassesOwn (model P w) (cxOf (L2.CX P w) P w Z.K Z.mg base nm_heads_inp "heads_in" (defScope st_heads_inp) Z.f_heads_inp cdv A outer s H E).A (cxOf (L2.CX P w) P w Z.K Z.mg base nm_heads_inp "heads_in" (defScope st_heads_inp) Z.f_heads_inp cdv A outer s H E).env (cxOf (L2.CX P w) P w Z.K Z.mg base nm_heads_inp "heads_in" (defScope st_heads_inp) Z.f_heads_inp cdv A outer s H E).xe := passes_of rfl
    refine ⟨t_heads_inp Z (fun cls d _ H => E cls d H), ?_, rd_heads_inp T h⟩
    exact (pss_cons (ps_set (i := 1) sc_heads_inp.nd rfl (Or.inl rfl) pe_dnewK)
      (pss_cons (ps_set (i := 2) sc_heads_inp.nd rfl (Or.inl rfl) pe_int)
      (pss_cons (ps_for po rfl (pi_range1 rfl T.n_range (pa_cons (pe_op op_sub (pe_callB call_len' (by rfl) T.n_len (by decide +kernel) (pa_cons (pv 0) pa_nil)) pe_int) pa_nil)) (pg_name (i := 3) sc_heads_inp.nd rfl (Or.inl rfl)) (pss_one (ps_if (pt_cmpR (op_eqU (hr.units)) (pe_ix ix_seq (pv 0) (pv 3) (fun _ _ => rfl)) pe_str (nomark _)) (C8.pss_cut (ps_if (pt_cmp (pc_dnotin (hu_of hr) (pe_ix ix_seq (pv 0) (pe_op op_addU (pv 3) pe_int) (fun _ _ => rfl)) (pv 1))) (pss_cons (ps_set (i := 4) sc_heads_inp.nd rfl (Or.inl rfl) (pe_op op_addU (pv 3) pe_int))
      (pss_cons (ps_while po (PW.pt (pw_and (pt_cmpR op_lt (pv 4) (pe_callB call_len' (by rfl) T.n_len (by decide +kernel) (pa_cons (pv 0) pa_nil)) (nomark _)) (pw_and1 (pt_cmpR (op_neU (hr.units)) (pe_ix ix_seq (pv 0) (pv 4) (fun _ _ => rfl)) pe_str (nomark _))))) (pss_one (ps_set (i := 4) sc_heads_inp.nd rfl (Or.inl rfl) (pe_op op_addU (pv 4) pe_int))))
      (pss_one (ps_dput (hu_of hr) (pv 1) (pe_ix ix_seq (pv 0) (pe_op op_addU (pv 3) pe_int) (fun _ _ => rfl)) (pe_tup (pa_cons (pv 2) (pa_cons (pe_op op_sub (pe_op op_sub (pv 4) (pv 3)) pe_int) pa_nil))) rfl)))) pss_nil)
      (pss_one (ps_set (i := 2) sc_heads_inp.nd rfl (Or.inl rfl) (pe_op op_addU (pv 2) pe_int)))) pss_nil)))
      (pss_one (ps_ret (pv 1))))))

theorem sc_Reader_init : FnScope nm_Reader_init ["self", "words"] (defScope st_Reader_init) := ⟨rfl, rfl, rfl, by decide +kernel, rfl, by decide +kernel, by decide +kernel⟩
theorem ok_Reader_init {P : Program} {w : World} {base : Heap} {Z : Adr} (T : Top Z) (TB : TBs base Z) (G_heads_inp : FnOk P w Z.K Z.mg base (L2.CX P w) 1 Z.f_heads_inp Z.d_heads_inp ["words"] (sp_heads_inp Z)) : FnOk P w Z.K Z.mg base (L2.CX P w) 2 Z.f_Reader_init Z.d_Reader_init ["self", "words"] (sp_Reader_init Z) := by
  refine FnOk.mono (T.F_Reader_init.okX (k := 1) sc_Reader_init (fun vs H Q E h => ?_) (fun cdv A outer s H vs Q E hr h => ?_)) (by decide)
  · obtain ⟨a0, a1, rfl, _⟩ := h; rfl
  · obtain ⟨a0, a1, rfl, h⟩ := h
    have tk : Takes (cxOf (L2.CX P w) P w Z.K Z.mg base nm_Reader_init "Reader.__init__" (defScope st_Reader_init) Z.f_Reader_init cdv A outer s H E) (fun cls d _ H => E cls d H) := takes_of rfl rfl rfl rfl
    have po : PassesOwn (model P w) (cxOf (L2.CX P w) P w Z.K Z.mg base nm_Reader_init "Reader.__init__" (defScope st_Reader_init) Z.f_Reader_init cdv A outer s H E).A (cxOf (L2.CX P w) P w Z.K Z.mg base nm_Reader_init "Reader.__init__" (defScope st_Reader_init) Z.f_Reader_init cdv A outer s H E).env (cxOf (L2.CX P w) P w Z.K Z.mg base nm_Reader_init "Reader.__init__" (defScope st_Reader_init) Z.f_Reader_init cdv A outer s H E).xe := passes_of rfl
    refine ⟨t_Reader_init Z (fun cls d _ H => E cls d H), ?_, rd_Reader_init T h⟩
    exact (pss_cons (ps_fld (pv 0) (pv 1) rfl)
      (pss_cons (ps_fld (pv 0) pe_int rfl)
      (pss_one (ps_fld (pv 0) (pe_callS G_heads_inp (hr.mono (by decide)) rfl T.m_heads_inp T.k_heads_inp T.b_heads_inp (fun σ => passAt tk σ) (pa_cons (pv 1) pa_nil)) rfl))))

theorem sc_Reader_is_left : FnScope nm_Reader_is_left ["self"] (defScope st_Reader_is_left) := ⟨rfl, rfl, rfl, by decide +kernel, rfl, by decide +kernel, by decide +kernel⟩
theorem ok_Reader_is_left {P : Program} {w : World} {base : Heap} {Z : Adr} (T : Top Z) (TB : TBs base Z)  : FnOk P w Z.K Z.mg base (L2.CX P w) 1 Z.f_Reader_is_left Z.d_Reader_is_left ["self"] (sp_Reader_is_left Z) := by
  refine FnOk.mono (T.F_Reader_is_left.okX (k := 0) sc_Reader_is_left (fun vs H Q E h => ?_) (fun cdv A outer s H vs Q E hr h => ?_)) (by decide)
  · obtain ⟨a0, rfl, _⟩ := h; rfl
  · obtain ⟨a0, rfl, h⟩ := h
    have tk : Takes (cxOf (L2.CX P w) P w Z.K Z.mg base nm_Reader_is_left "Reader.is_left" (defScope st_Reader_is_left) Z.f_Reader_is_left cdv A outer s H E) (fun cls d _ H => E cls d H) := takes_of rfl rfl rfl rfl
    have po : PassesOwn (model P w) (cxOf (L2.CX P w) P w Z.K Z.mg base nm_Reader_is_left "Reader.is_left" (defScope st_Reader_is_left) Z.f_Reader_is_left cdv A outer s H E).A (cxOf (L2.CX P w) P w Z.K Z.mg base nm_Reader_is_left "Reader.is_left" (defScope st_Reader_is_left) Z.f_Reader_is_left cdv A outer s H E).env (cxOf (L2.CX P w) P w Z.K Z.mg base nm_Reader_is_left "Reader.is_left" (defScope st_Reader_is_left) Z.f_Reader_is_left cdv A outer s H E).xe := passes_of rfl
    refine ⟨t_Reader_is_left Z (fun cls d _ H => E cls d H), ?_, rd_Reader_is_left T h⟩
    exact (pss_one (ps_ret (pe_cmpR op_lt (pe_fld (pv 0) rfl) (pe_callB call_len' (by rfl) T.n_len (by decide +kernel) (pa_cons (pe_fld (pv 0) rfl) pa_nil)) (nomark _))))

theorem sc_Reader_due : FnScope nm_Reader_due ["self", "is_fit"] (defScope st_Reader_due) := ⟨rfl, rfl, rfl, by decide +kernel, rfl, by decide +kernel, by decide +kernel⟩
theorem bd_Reader_due {P : Program} {w : World} {base : Heap} {Z : Adr} (T : Top Z) (G_Reader_is_left : FnOk P w Z.K Z.mg base (L2.CX P w) 1 Z.f_Reader_is_left Z.d_Reader_is_left ["self"] (sp_Reader_is_left Z)) (G_NoText_init : FnOk P w Z.K Z.mg base (L2.CX P w) 1 Z.f_NoText_init Z.d_NoText_init ["self", "at"] (sp_NoText_init Z)) {F : NdefX.NF} {f : Addr} {body : Expr} {x : Str} {N fr : List Str} {ws : List (Option V)} {tb : TE} {cdv : Value} {A : Around} {outer : List Env} {s : Shared} {H : Hp} {v : V} {Q : VK} {E : XK} {k kl : Nat} (hk : 2 ≤ k) (hkl : kl + 1 ≤ k)
    (L : LamIn F body f fr ws (frs outer) s H) (S : NdefX.NScope N [x] fr F.scope) (hb : ∀ (pm ctv u : Value), bindArgs (PySem.W.kla_fn "<lambda>" F.qual F.params body F.scope F.cl pm (.ref F.c) ctv) ⟨[u], []⟩ = pure [(x, u)])
    (hbody : ∀ (A : Around) (outer : List Env) (s : Shared) (H : Hp), Room kl (A.deeper (NdefX.envF F f s.heap.objs.size)) → PE (NdefX.ncx (L2.CX P w) P w Z.K Z.mg base N F f A outer s H (fun _ _ _ => False)) body tb)
    (hr : Room k (A.deeper (PyProof.Rows.envOfC "Reader.due" (defScope st_Reader_due) s.heap.objs.size Z.f_Reader_due cdv))) (h : q_Reader_due Z F (lpOf N tb ws) v H Q E) :
    ∃ t, PSs (cxOf (L2.CX P w) P w Z.K Z.mg base nm_Reader_due "Reader.due" (defScope st_Reader_due) Z.f_Reader_due cdv A outer s H E) (defBody st_Reader_due) t ∧ t { nx := fun _ H' => Q .non H', rt := Q } (L2.start nm_Reader_due [v, .ref f]) H := by
  have tk : Takes (cxOf (L2.CX P w) P w Z.K Z.mg base nm_Reader_due "Reader.due" (defScope st_Reader_due) Z.f_Reader_due cdv A outer s H E) (fun cls d _ H => E cls d H) := takes_of rfl rfl rfl rfl
  have po : PassesOwn (model P w) (cxOf (L2.CX P w) P w Z.K Z.mg base nm_Reader_due "Reader.due" (defScope st_Reader_due) Z.f_Reader_due cdv A outer s H E).A (cxOf (L2.CX P w) P w Z.K Z.mg base nm_Reader_due "Reader.due" (defScope st_Reader_due) Z.f_Reader_due cdv A outer s H E).env (cxOf (L2.CX P w) P w Z.K Z.mg base nm_Reader_due "Reader.due" (defScope st_Reader_due) Z.f_Reader_due cdv A outer s H E).xe := passes_of rfl
  refine ⟨t_Reader_due Z (fun cls d _ H => E cls d H) F f (lpOf N tb ws), ?_, rd_Reader_due T h⟩
  exact (pss_cons (ps_if (PW.pt (pw_or (pt_not (pt_val (pe_meth0Z (pv 0) T.cl_Reader T.mt_Reader_is_left G_Reader_is_left (hr.mono (by omega)) T.b_Reader_is_left (fun σ => passAt tk σ)))) (pw_or1 (pt_not (pt_val (pe_app (i := 1) L S hb (hr.mono hkl) hbody rfl (Or.inl rfl) (by decide) (by decide) (pe_ix ix_seq (pe_fld (pv 0) rfl) (pe_fld (pv 0) rfl) (fun _ _ => rfl)))))))) (pss_one (ps_raiseO rfl tk T.ox_NoText T.oi_NoText T.ot_NoText G_NoText_init (hr.mono (by omega)) T.b_NoText_init passF rfl T.g_NoText (pa_cons (pe_fld (pv 0) rfl) pa_nil))) pss_nil)
      (pss_cons (ps_fld (pv 0) (pe_op op_addU (pe_fld (pv 0) rfl) pe_int) rfl)
      (pss_one (ps_ret (pe_ix ix_seq (pe_fld (pv 0) rfl) (pe_op op_sub (pe_fld (pv 0) rfl) pe_int) (fun _ _ => rfl))))))

theorem sc_Reader_fixed_word : FnScope nm_Reader_fixed_word ["self", "word"] (defScope st_Reader_fixed_word) := ⟨rfl, rfl, rfl, by decide +kernel, rfl, by decide +kernel, by decide +kernel⟩
theorem ok_Reader_fixed_word {P : Program} {w : World} {base : Heap} {Z : Adr} (T : Top Z) (TB : TBs base Z) (G_Reader_is_left : FnOk P w Z.K Z.mg base (L2.CX P w) 1 Z.f_Reader_is_left Z.d_Reader_is_left ["self"] (sp_Reader_is_left Z)) (G_NoText_init : FnOk P w Z.K Z.mg base (L2.CX P w) 1 Z.f_NoText_init Z.d_NoText_init ["self", "at"] (sp_NoText_init Z)) : FnOk P w Z.K Z.mg base (L2.CX P w) 4 Z.f_Reader_fixed_word Z.d_Reader_fixed_word ["self", "word"] (sp_Reader_fixed_word Z) := by
  refine FnOk.mono (_root_.Z.okC T.F_Reader_fixed_word T.cd_Reader_fixed_word (k := 3) sc_Reader_fixed_word (fun vs H Q E h => ?_) (fun A outer s H vs Q E hr h => ?_)) (by decide)
  · obtain ⟨a0, a1, rfl, _⟩ := h; rfl
  · obtain ⟨a0, a1, rfl, h⟩ := h
    have tk : Takes (cxOf (L2.CX P w) P w Z.K Z.mg base nm_Reader_fixed_word "Reader.fixed_word" (defScope st_Reader_fixed_word) Z.f_Reader_fixed_word (.ref Z.cc_Reader_fixed_word) A outer s H E) (fun cls d _ H => E cls d H) := takes_of rfl rfl rfl rfl
    have po : PassesOwn (model P w) (cxOf (L2.CX P w) P w Z.K Z.mg base nm_Reader_fixed_word "Reader.fixed_word" (defScope st_Reader_fixed_word) Z.f_Reader_fixed_word (.ref Z.cc_Reader_fixed_word) A outer s H E).A (cxOf (L2.CX P w) P w Z.K Z.mg base nm_Reader_fixed_word "Reader.fixed_word" (defScope st_Reader_fixed_word) Z.f_Reader_fixed_word (.ref Z.cc_Reader_fixed_word) A outer s H E).env (cxOf (L2.CX P w) P w Z.K Z.mg base nm_Reader_fixed_word "Reader.fixed_word" (defScope st_Reader_fixed_word) Z.f_Reader_fixed_word (.ref Z.cc_Reader_fixed_word) A outer s H E).xe := passes_of rfl
    refine ⟨t_Reader_fixed_word Z (fun cls d _ H => E cls d H), ?_, rd_Reader_fixed_word T h⟩
    exact (pss_one (ps_expr (pe_methLF (C := Z.c_Reader) (m := "due") (fr := ["word"]) (js := [1]) (N := ["other", "word"]) (tb := (tOp (rEqU Z.K) (tVar 0) (tVar 1))) (k := 2) (sp := sp_Reader_due Z) (pv 0) T.cl_Reader T.mt_Reader_due T.F_Reader_due sc_Reader_due T.b_Reader_due TB.b_Reader_fixed_word rfl T.tq_Reader_fixed_word (by rfl) (lam_free (sc := defScope st_Reader_fixed_word) (by decide +kernel)) (by decide +kernel) rfl (hr.mono (by decide)) (fun σ => passAt tk σ)
        (fun cdv F f s H ws v Q E e1 e2 e3 L hr2 h => by
          obtain ⟨_, _, _, _, _, _, _⟩ := F
          subst e2 e3
          exact bd_Reader_due T G_Reader_is_left G_NoText_init (tb := (tOp (rEqU Z.K) (tVar 0) (tVar 1))) (k := 2) (kl := 1) (by decide) (by decide) L (NdefX.nscope_by (by first | kernel_rfl | rfl)) (fun _ _ _ => rfl) (fun A outer s H hr => (pe_cmpR (op_eqU (hr.units)) (pv 0) (pv 1) (nomark _))) hr2 h))))

theorem sc_Reader_fresh_name : FnScope nm_Reader_fresh_name ["self", "taken"] (defScope st_Reader_fresh_name) := ⟨rfl, rfl, rfl, by decide +kernel, rfl, by decide +kernel, by decide +kernel⟩
theorem ok_Reader_fresh_name {P : Program} {w : World} {base : Heap} {Z : Adr} (T : Top Z) (TB : TBs base Z) (G_Reader_is_left : FnOk P w Z.K Z.mg base (L2.CX P w) 1 Z.f_Reader_is_left Z.d_Reader_is_left ["self"] (sp_Reader_is_left Z)) (G_NoText_init : FnOk P w Z.K Z.mg base (L2.CX P w) 1 Z.f_NoText_init Z.d_NoText_init ["self", "at"] (sp_NoText_init Z)) (G_is_name : FnOk P w Z.K Z.mg base (L2.CX P w) 3 Z.f_is_name Z.d_is_name ["word"] (sp_is_name Z)) : FnOk P w Z.K Z.mg base (L2.CX P w) 6 Z.f_Reader_fresh_name Z.d_Reader_fresh_name ["self", "taken"] (sp_Reader_fresh_name Z) := by
  refine FnOk.mono (_root_.Z.okC T.F_Reader_fresh_name T.cd_Reader_fresh_name (k := 5) sc_Reader_fresh_name (fun vs H Q E h => ?_) (fun A outer s H vs Q E hr h => ?_)) (by decide)
  · obtain ⟨a0, a1, rfl, _⟩ := h; rfl
  · obtain ⟨a0, a1, rfl, h⟩ := h
    have tk : Takes (cxOf (L2.CX P w) P w Z.K Z.mg base nm_Reader_fresh_name "Reader.fresh_name" (defScope st_Reader_fresh_name) Z.f_Reader_fresh_name (.ref Z.cc_Reader_fresh_name) A outer s H E) (fun cls d _ H => E cls d H) := takes_of rfl rfl rfl rfl
    have po : PassesOwn (model P w) (cxOf (L2.CX P w) P w Z.K Z.mg base nm_Reader_fresh_name "Reader.fresh_name" (defScope st_Reader_fresh_name) Z.f_Reader_fresh_name (.ref Z.cc_Reader_fresh_name) A outer s H E).A (cxOf (L2.CX P w) P w Z.K Z.mg base nm_Reader_fresh_name "Reader.fresh_name" (defScope st_Reader_fresh_name) Z.f_Reader_fresh_name (.ref Z.cc_Reader_fresh_name) A outer s H E).env (cxOf (L2.CX P w) P w Z.K Z.mg base nm_Reader_fresh_name "Reader.fresh_name" (defScope st_Reader_fresh_name) Z.f_Reader_fresh_name (.ref Z.cc_Reader_fresh_name) A outer s H E).xe := passes_of rfl
    refine ⟨t_Reader_fresh_name Z (fun cls d _ H => E cls d H), ?_, rd_Reader_fresh_name T h⟩
    exact (pss_one (ps_ret (pe_methLF (C := Z.c_Reader) (m := "due") (fr := ["taken"]) (js := [1]) (N := ["word", "taken"]) (tb := (tAndV (tCallS (sp_is_name Z) (WE fun _ _ _ _ => False) (tCons (tVar 0) tNil)) (tOp (rIn Z.K true) (tVar 0) (tVar 1)))) (k := 4) (sp := sp_Reader_due Z) (pv 0) T.cl_Reader T.mt_Reader_due T.F_Reader_due sc_Reader_due T.b_Reader_due TB.b_Reader_fresh_name rfl T.tq_Reader_fresh_name (by rfl) (lam_free (sc := defScope st_Reader_fresh_name) (by decide +kernel)) (by decide +kernel) rfl (hr.mono (by decide)) (fun σ => passAt tk σ)
        (fun cdv F f s H ws v Q E e1 e2 e3 L hr2 h => by
          obtain ⟨_, _, _, _, _, _, _⟩ := F
          subst e2 e3
          exact bd_Reader_due T G_Reader_is_left G_NoText_init (tb := (tAndV (tCallS (sp_is_name Z) (WE fun _ _ _ _ => False) (tCons (tVar 0) tNil)) (tOp (rIn Z.K true) (tVar 0) (tVar 1)))) (k := 4) (kl := 3) (by decide) (by decide) L (NdefX.nscope_by (by first | kernel_rfl | rfl)) (fun _ _ _ => rfl) (fun A outer s H hr => (pe_and (pe_callS G_is_name (hr.mono (by decide)) rfl T.m_is_name T.k_is_name T.b_is_name passC (pa_cons (pv 0) pa_nil)) (pe_one (pe_cmpR op_notIn_seq (pv 0) (pv 1) (by rfl))))) hr2 h))))

theorem sc_Reader_boxes_to : FnScope nm_Reader_boxes_to ["self", "end", "boxes", "most"] (defScope st_Reader_boxes_to) := ⟨rfl, rfl, rfl, by decide +kernel, rfl, by decide +kernel, by decide +kernel⟩
theorem ok_Reader_boxes_to {P : Program} {w : World} {base : Heap} {Z : Adr} (T : Top Z) (TB : TBs base Z) (G_NoText_init : FnOk P w Z.K Z.mg base (L2.CX P w) 1 Z.f_NoText_init Z.d_NoText_init ["self", "at"] (sp_NoText_init Z)) (G_Reader_fresh_name : FnOk P w Z.K Z.mg base (L2.CX P w) 6 Z.f_Reader_fresh_name Z.d_Reader_fresh_name ["self", "taken"] (sp_Reader_fresh_name Z)) (G_Reader_fixed_word : FnOk P w Z.K Z.mg base (L2.CX P w) 4 Z.f_Reader_fixed_word Z.d_Reader_fixed_word ["self", "word"] (sp_Reader_fixed_word Z)) : FnOk P w Z.K Z.mg base (L2.CX P w) 7 Z.f_Reader_boxes_to Z.d_Reader_boxes_to ["self", "end", "boxes", "most"] (sp_Reader_boxes_to Z) := by
  refine FnOk.mono (T.F_Reader_boxes_to.okX (k := 6) sc_Reader_boxes_to (fun vs H Q E h => ?_) (fun cdv A outer s H vs Q E hr h => ?_)) (by decide)
  · obtain ⟨a0, a1, a2, a3, rfl, _⟩ := h; rfl
  · obtain ⟨a0, a1, a2, a3, rfl, h⟩ := h
    have tk : Takes (cxOf (L2.CX P w) P w Z.K Z.mg base nm_Reader_boxes_to "Reader.boxes_to" (defScope st_Reader_boxes_to) Z.f_Reader_boxes_to cdv A outer s H E) (fun cls d _ H => E cls d H) := takes_of rfl rfl rfl rfl
    have po : PassesOwn (model P w) (cxOf (L2.CX P w) P w Z.K Z.mg base nm_Reader_boxes_to "Reader.boxes_to" (defScope st_Reader_boxes_to) Z.f_Reader_boxes_to cdv A outer s H E).A (cxOf (L2.CX P w) P w Z.K Z.mg base nm_Reader_boxes_to "Reader.boxes_to" (defScope st_Reader_boxes_to) Z.f_Reader_boxes_to cdv A outer s H E).env (cxOf (L2.CX P w) P w Z.K Z.mg base nm_Reader_boxes_to "Reader.boxes_to" (defScope st_Reader_boxes_to) Z.f_Reader_boxes_to cdv A outer s H E).xe := passes_of rfl
    refine ⟨t_Reader_boxes_to Z (fun cls d _ H => E cls d H), ?_, rd_Reader_boxes_to T h⟩
    exact (pss_cons (ps_while po (pt_cmpR (op_neU (hr.units)) (pe_slice sl_U (pe_fld (pv 0) rfl) (po_some (pe_fld (pv 0) rfl)) (po_some (pe_op op_addU (pe_fld (pv 0) rfl) pe_int))) (pe_lst (pa_cons (pv 1) pa_nil)) (nomark _)) (pss_cons (ps_if (pt_cmpR (op_eqU (hr.units)) (pe_callB call_len' (by rfl) T.n_len (by decide +kernel) (pa_cons (pv 2) pa_nil)) (pv 3) (nomark _)) (pss_one (ps_raiseO rfl tk T.ox_NoText T.oi_NoText T.ot_NoText G_NoText_init (hr.mono (by decide)) T.b_NoText_init passF rfl T.g_NoText (pa_cons (pe_fld (pv 0) rfl) pa_nil))) pss_nil)
      (pss_one (ps_expr (pe_bm PySem.F.plainAttrs_list PySem.F.slot_list_append PySem.F.type_list_append mt_append (pv 2) (pa_cons (pe_methZ (pv 0) T.cl_Reader T.mt_Reader_fresh_name G_Reader_fresh_name (hr.mono (by decide)) T.b_Reader_fresh_name (fun σ => passAt tk σ) (pa_cons (pv 2) pa_nil)) pa_nil))))))
      (pss_one (ps_expr (pe_methZ (pv 0) T.cl_Reader T.mt_Reader_fixed_word G_Reader_fixed_word (hr.mono (by decide)) T.b_Reader_fixed_word (fun σ => passAt tk σ) (pa_cons (pv 1) pa_nil)))))

theorem sc_Reader_how_many : FnScope nm_Reader_how_many ["self", "least"] (defScope st_Reader_how_many) := ⟨rfl, rfl, rfl, by decide +kernel, rfl, by decide +kernel, by decide +kernel⟩
theorem ok_Reader_how_many {P : Program} {w : World} {base : Heap} {Z : Adr} (T : Top Z) (TB : TBs base Z) (G_Reader_is_left : FnOk P w Z.K Z.mg base (L2.CX P w) 1 Z.f_Reader_is_left Z.d_Reader_is_left ["self"] (sp_Reader_is_left Z)) (G_NoText_init : FnOk P w Z.K Z.mg base (L2.CX P w) 1 Z.f_NoText_init Z.d_NoText_init ["self", "at"] (sp_NoText_init Z)) (G_is_number_word : FnOk P w Z.K Z.mg base (L2.CX P w) 3 Z.f_is_number_word Z.d_is_number_word ["word"] (sp_is_number_word Z)) : FnOk P w Z.K Z.mg base (L2.CX P w) 6 Z.f_Reader_how_many Z.d_Reader_how_many ["self", "least"] (sp_Reader_how_many Z) := by
  refine FnOk.mono (_root_.Z.okC T.F_Reader_how_many T.cd_Reader_how_many (k := 5) sc_Reader_how_many (fun vs H Q E h => ?_) (fun A outer s H vs Q E hr h => ?_)) (by decide)
  · obtain ⟨a0, a1, rfl, _⟩ := h; rfl
  · obtain ⟨a0, a1, rfl, h⟩ := h
    have tk : Takes (cxOf (L2.CX P w) P w Z.K Z.mg base nm_Reader_how_many "Reader.how_many" (defScope st_Reader_how_many) Z.f_Reader_how_many (.ref Z.cc_Reader_how_many) A outer s H E) (fun cls d _ H => E cls d H) := takes_of rfl rfl rfl rfl
    have po : PassesOwn (model P w) (cxOf (L2.CX P w) P w Z.K Z.mg base nm_Reader_how_many "Reader.how_many" (defScope st_Reader_how_many) Z.f_Reader_how_many (.ref Z.cc_Reader_how_many) A outer s H E).A (cxOf (L2.CX P w) P w Z.K Z.mg base nm_Reader_how_many "Reader.how_many" (defScope st_Reader_how_many) Z.f_Reader_how_many (.ref Z.cc_Reader_how_many) A outer s H E).env (cxOf (L2.CX P w) P w Z.K Z.mg base nm_Reader_how_many "Reader.how_many" (defScope st_Reader_how_many) Z.f_Reader_how_many (.ref Z.cc_Reader_how_many) A outer s H E).xe := passes_of rfl
    refine ⟨t_Reader_how_many Z (fun cls d _ H => E cls d H), ?_, rd_Reader_how_many T h⟩
    exact (pss_one (ps_ret (pe_callTy call_intS' (by rfl) T.n_int (by decide +kernel) (pa_cons (pe_methLF (C := Z.c_Reader) (m := "due") (fr := ["least"]) (js := [1]) (N := ["word", "least"]) (tb := (tAndV (tCallS (sp_is_number_word Z) (WE fun _ _ _ _ => False) (tCons (tVar 0) tNil)) (tChain (rI0 fun i j => .bl (decide (i ≤ j))) (rI0 fun i j => .bl (decide (i ≤ j))) (tVar 1) (tCB rIntS (tCons (tVar 0) tNil)) (tC (.int 12))))) (k := 4) (sp := sp_Reader_due Z) (pv 0) T.cl_Reader T.mt_Reader_due T.F_Reader_due sc_Reader_due T.b_Reader_due TB.b_Reader_how_many rfl T.tq_Reader_how_many (by rfl) (lam_free (sc := defScope st_Reader_how_many) (by decide +kernel)) (by decide +kernel) rfl (hr.mono (by decide)) (fun σ => passAt tk σ)
        (fun cdv F f s H ws v Q E e1 e2 e3 L hr2 h => by
          obtain ⟨_, _, _, _, _, _, _⟩ := F
          subst e2 e3
          exact bd_Reader_due T G_Reader_is_left G_NoText_init (tb := (tAndV (tCallS (sp_is_number_word Z) (WE fun _ _ _ _ => False) (tCons (tVar 0) tNil)) (tChain (rI0 fun i j => .bl (decide (i ≤ j))) (rI0 fun i j => .bl (decide (i ≤ j))) (tVar 1) (tCB rIntS (tCons (tVar 0) tNil)) (tC (.int 12))))) (k := 4) (kl := 3) (by decide) (by decide) L (NdefX.nscope_by (by first | kernel_rfl | rfl)) (fun _ _ _ => rfl) (fun A outer s H hr => (pe_and (pe_callS G_is_number_word (hr.mono (by decide)) rfl T.m_is_number_word T.k_is_number_word T.b_is_number_word passC (pa_cons (pv 0) pa_nil)) (pe_one (pe_chain op_le op_le (pv 1) (pe_callTy call_intS' (by rfl) T.n_int (by decide +kernel) (pa_cons (pv 0) pa_nil)) (pe_glob rfl T.g_MOST_PARTS ⟨_, rfl⟩))))) hr2 h)) pa_nil))))

theorem sc_Reader_node : FnScope nm_Reader_node ["self", "boxes", "deep"] (defScope st_Reader_node) := ⟨rfl, rfl, rfl, by decide +kernel, rfl, by decide +kernel, by decide +kernel⟩
theorem ok_Reader_node {P : Program} {w : World} {base : Heap} {Z : Adr} (T : Top Z) (TB : TBs base Z) (n : Nat) (G_NoText_init : FnOk P w Z.K Z.mg base (L2.CX P w) 1 Z.f_NoText_init Z.d_NoText_init ["self", "at"] (sp_NoText_init Z)) (G_Reader_is_left : FnOk P w Z.K Z.mg base (L2.CX P w) 1 Z.f_Reader_is_left Z.d_Reader_is_left ["self"] (sp_Reader_is_left Z)) (G_is_node_word : FnOk P w Z.K Z.mg base (L2.CX P w) 4 Z.f_is_node_word Z.d_is_node_word ["word", "boxes"] (sp_is_node_word Z)) (G_is_number_word : FnOk P w Z.K Z.mg base (L2.CX P w) 3 Z.f_is_number_word Z.d_is_number_word ["word"] (sp_is_number_word Z)) (G_kind_of : FnOk P w Z.K Z.mg base (L2.CX P w) 2 Z.f_kind_of Z.d_kind_of ["word"] (sp_kind_of Z)) (G_Reader_own_numbers : FnOk P w Z.K Z.mg base (L2.CX P w) 7 Z.f_Reader_own_numbers Z.d_Reader_own_numbers ["self", "kind", "boxes"] (sp_Reader_own_numbers Z)) (G_Reader_node : FnOk P w Z.K Z.mg base (L2.CX P w) (7 + n) Z.f_Reader_node Z.d_Reader_node ["self", "boxes", "deep"] (sp_Reader_node Z n)) : FnOk P w Z.K Z.mg base (L2.CX P w) (7 + n + 1) Z.f_Reader_node Z.d_Reader_node ["self", "boxes", "deep"] (sp_Reader_node Z (n + 1)) := by
  refine _root_.Z.okC T.F_Reader_node T.cd_Reader_node (k := 7 + n) sc_Reader_node (fun vs H Q E h => ?_) (fun A outer s H vs Q E hr h => ?_)
  · obtain ⟨a0, a1, a2, rfl, _⟩ := h; rfl
  · obtain ⟨a0, a1, a2, rfl, h⟩ := h
    have tk : Takes (cxOf (L2.CX P w) P w Z.K Z.mg base nm_Reader_node "Reader.node" (defScope st_Reader_node) Z.f_Reader_node (.ref Z.cc_Reader_node) A outer s H E) (fun cls d _ H => E cls d H) := takes_of rfl rfl rfl rfl
    have po : PassesOwn (model P w) (cxOf (L2.CX P w) P w Z.K Z.mg base nm_Reader_node "Reader.node" (defScope st_Reader_node) Z.f_Reader_node (.ref Z.cc_Reader_node) A outer s H E).A (cxOf (L2.CX P w) P w Z.K Z.mg base nm_Reader_node "Reader.node" (defScope st_Reader_node) Z.f_Reader_node (.ref Z.cc_Reader_node) A outer s H E).env (cxOf (L2.CX P w) P w Z.K Z.mg base nm_Reader_node "Reader.node" (defScope st_Reader_node) Z.f_Reader_node (.ref Z.cc_Reader_node) A outer s H E).xe := passes_of rfl
    refine ⟨t_Reader_node Z n (fun cls d _ H => E cls d H), ?_, rd_Reader_node T h⟩
    exact (pss_cons (ps_if (pt_cmpR op_gt (pv 2) (pe_glob rfl T.g_DEEPEST ⟨_, rfl⟩) (nomark _)) (pss_one (ps_raiseO rfl tk T.ox_NoText T.oi_NoText T.ot_NoText G_NoText_init (hr.mono (by omega)) T.b_NoText_init passF rfl T.g_NoText (pa_cons (pe_fld (pv 0) rfl) pa_nil))) pss_nil)
      (pss_cons (ps_set (i := 3) sc_Reader_node.nd rfl (Or.inl rfl) (pe_methLF (C := Z.c_Reader) (m := "due") (fr := ["boxes"]) (js := [1]) (N := ["other", "boxes"]) (tb := (tCallS (sp_is_node_word Z) (WE fun _ _ _ _ => False) (tCons (tVar 0) (tCons (tVar 1) tNil)))) (k := 6) (sp := sp_Reader_due Z) (pv 0) T.cl_Reader T.mt_Reader_due T.F_Reader_due sc_Reader_due T.b_Reader_due TB.b_Reader_node rfl T.tq_Reader_node (by rfl) (lam_free (sc := defScope st_Reader_node) (by decide +kernel)) (by decide +kernel) rfl (hr.mono (by omega)) (fun σ => passAt tk σ)
        (fun cdv F f s H ws v Q E e1 e2 e3 L hr2 h => by
          obtain ⟨_, _, _, _, _, _, _⟩ := F
          subst e2 e3
          exact bd_Reader_due T G_Reader_is_left G_NoText_init (tb := (tCallS (sp_is_node_word Z) (WE fun _ _ _ _ => False) (tCons (tVar 0) (tCons (tVar 1) tNil)))) (k := 6) (kl := 5) (by decide) (by decide) L (NdefX.nscope_by (by first | kernel_rfl | rfl)) (fun _ _ _ => rfl) (fun A outer s H hr => (pe_callS G_is_node_word (hr.mono (by decide)) rfl T.m_is_node_word T.k_is_node_word T.b_is_node_word passC (pa_cons (pv 0) (pa_cons (pv 1) pa_nil)))) hr2 h)))
      (pss_cons (ps_if (pt_cmpR op_in_seq (pv 3) (pv 1) (by rfl)) (pss_one (ps_ret (pe_lst (pa_cons (pe_glob rfl T.g_GET ⟨_, rfl⟩) (pa_cons (pe_bm PySem.F.plainAttrs_list PySem.F.slot_list_index PySem.F.type_list_index mt_index (pv 1) (pa_cons (pv 3) pa_nil)) pa_nil))))) pss_nil)
      (pss_cons (ps_if (pt_val (pe_callS G_is_number_word (hr.mono (by omega)) rfl T.m_is_number_word T.k_is_number_word T.b_is_number_word (fun σ => passAt tk σ) (pa_cons (pv 3) pa_nil))) (pss_one (ps_ret (pe_lst (pa_cons (pe_glob rfl T.g_NUMBER ⟨_, rfl⟩) (pa_cons (pe_callTy call_intS' (by rfl) T.n_int (by decide +kernel) (pa_cons (pv 3) pa_nil)) pa_nil))))) pss_nil)
      (pss_cons (ps_set (i := 4) sc_Reader_node.nd rfl (Or.inl rfl) (pe_callS G_kind_of (hr.mono (by omega)) rfl T.m_kind_of T.k_kind_of T.b_kind_of (fun σ => passAt tk σ) (pa_cons (pv 3) pa_nil)))
      (pss_cons (ps_asg (pe_methZ (pv 0) T.cl_Reader T.mt_Reader_own_numbers G_Reader_own_numbers (hr.mono (by omega)) T.b_Reader_own_numbers (fun σ => passAt tk σ) (pa_cons (pv 4) (pa_cons (pv 1) pa_nil))) (pg_un rfl (pgs_cons (pg_name (i := 5) sc_Reader_node.nd rfl (Or.inl rfl)) (pgs_cons (pg_name (i := 6) sc_Reader_node.nd rfl (Or.inl rfl)) pgs_nil))))
      (pss_cons (ps_set (i := 5) sc_Reader_node.nd rfl (Or.inl rfl) (pe_op op_addU (pe_lst (pa_cons (pv 4) pa_nil)) (pv 5)))
      (pss_cons (ps_for po rfl (pi_range1 rfl T.n_range (pa_cons (pv 6) pa_nil)) (pg_name (i := 7) sc_Reader_node.nd rfl (Or.inl rfl)) (pss_one (ps_expr (pe_bm PySem.F.plainAttrs_list PySem.F.slot_list_extend PySem.F.type_list_extend mt_extend (pv 5) (pa_cons (pe_methZ (pv 0) T.cl_Reader T.mt_Reader_node G_Reader_node (hr.mono (by omega)) T.b_Reader_node (fun σ => passAt tk σ) (pa_cons (pv 1) (pa_cons (pe_op op_addU (pv 2) pe_int) pa_nil))) pa_nil)))))
      (pss_one (ps_ret (pv 5)))))))))))

theorem sc_Reader_own_numbers : FnScope nm_Reader_own_numbers ["self", "kind", "boxes"] (defScope st_Reader_own_numbers) := ⟨rfl, rfl, rfl, by decide +kernel, rfl, by decide +kernel, by decide +kernel⟩
theorem ok_Reader_own_numbers {P : Program} {w : World} {base : Heap} {Z : Adr} (T : Top Z) (TB : TBs base Z) (G_Reader_is_left : FnOk P w Z.K Z.mg base (L2.CX P w) 1 Z.f_Reader_is_left Z.d_Reader_is_left ["self"] (sp_Reader_is_left Z)) (G_NoText_init : FnOk P w Z.K Z.mg base (L2.CX P w) 1 Z.f_NoText_init Z.d_NoText_init ["self", "at"] (sp_NoText_init Z)) (G_Reader_how_many : FnOk P w Z.K Z.mg base (L2.CX P w) 6 Z.f_Reader_how_many Z.d_Reader_how_many ["self", "least"] (sp_Reader_how_many Z)) (G_is_name : FnOk P w Z.K Z.mg base (L2.CX P w) 3 Z.f_is_name Z.d_is_name ["word"] (sp_is_name Z)) (G_parts_of : FnOk P w Z.K Z.mg base (L2.CX P w) 1 Z.f_parts_of Z.d_parts_of ["kind"] (sp_parts_of Z)) : FnOk P w Z.K Z.mg base (L2.CX P w) 7 Z.f_Reader_own_numbers Z.d_Reader_own_numbers ["self", "kind", "boxes"] (sp_Reader_own_numbers Z) := by
  refine FnOk.mono (_root_.Z.okC T.F_Reader_own_numbers T.cd_Reader_own_numbers (k := 6) sc_Reader_own_numbers (fun vs H Q E h => ?_) (fun A outer s H vs Q E hr h => ?_)) (by decide)
  · obtain ⟨a0, a1, a2, rfl, _⟩ := h; rfl
  · obtain ⟨a0, a1, a2, rfl, h⟩ := h
    have tk : Takes (cxOf (L2.CX P w) P w Z.K Z.mg base nm_Reader_own_numbers "Reader.own_numbers" (defScope st_Reader_own_numbers) Z.f_Reader_own_numbers (.ref Z.cc_Reader_own_numbers) A outer s H E) (fun cls d _ H => E cls d H) := takes_of rfl rfl rfl rfl
    have po : PassesOwn (model P w) (cxOf (L2.CX P w) P w Z.K Z.mg base nm_Reader_own_numbers "Reader.own_numbers" (defScope st_Reader_own_numbers) Z.f_Reader_own_numbers (.ref Z.cc_Reader_own_numbers) A outer s H E).A (cxOf (L2.CX P w) P w Z.K Z.mg base nm_Reader_own_numbers "Reader.own_numbers" (defScope st_Reader_own_numbers) Z.f_Reader_own_numbers (.ref Z.cc_Reader_own_numbers) A outer s H E).env (cxOf (L2.CX P w) P w Z.K Z.mg base nm_Reader_own_numbers "Reader.own_numbers" (defScope st_Reader_own_numbers) Z.f_Reader_own_numbers (.ref Z.cc_Reader_own_numbers) A outer s H E).xe := passes_of rfl
    refine ⟨t_Reader_own_numbers Z (fun cls d _ H => E cls d H), ?_, rd_Reader_own_numbers T h⟩
    exact (pss_cons (ps_if (pt_cmpR (op_eqU (hr.units)) (pv 1) (pe_glob rfl T.g_SET ⟨_, rfl⟩) (nomark _)) (pss_one (ps_ret (pe_tup (pa_cons (pe_lst (pa_cons (pe_bm PySem.F.plainAttrs_list PySem.F.slot_list_index PySem.F.type_list_index mt_index (pv 2) (pa_cons (pe_methLF (C := Z.c_Reader) (m := "due") (fr := ["boxes"]) (js := [2]) (N := ["word", "boxes"]) (tb := (tOp (rIn Z.K false) (tVar 0) (tVar 1))) (k := 5) (sp := sp_Reader_due Z) (pv 0) T.cl_Reader T.mt_Reader_due T.F_Reader_due sc_Reader_due T.b_Reader_due TB.b_Reader_own_numbers rfl T.tq_Reader_own_numbers (by rfl) (lam_free (sc := defScope st_Reader_own_numbers) (by decide +kernel)) (by decide +kernel) rfl (hr.mono (by decide)) (fun σ => passAt tk σ)
        (fun cdv F f s H ws v Q E e1 e2 e3 L hr2 h => by
          obtain ⟨_, _, _, _, _, _, _⟩ := F
          subst e2 e3
          exact bd_Reader_due T G_Reader_is_left G_NoText_init (tb := (tOp (rIn Z.K false) (tVar 0) (tVar 1))) (k := 5) (kl := 4) (by decide) (by decide) L (NdefX.nscope_by (by first | kernel_rfl | rfl)) (fun _ _ _ => rfl) (fun A outer s H hr => (pe_cmpR op_in_seq (pv 0) (pv 1) (by rfl))) hr2 h)) pa_nil)) pa_nil)) (pa_cons pe_int pa_nil))))) pss_nil)
      (pss_cons (ps_if (pt_cmpR (op_eqU (hr.units)) (pv 1) (pe_glob rfl T.g_ALL ⟨_, rfl⟩) (nomark _)) (pss_cons (ps_set (i := 3) sc_Reader_own_numbers.nd rfl (Or.inl rfl) (pe_methZ (pv 0) T.cl_Reader T.mt_Reader_how_many G_Reader_how_many (hr.mono (by decide)) T.b_Reader_how_many (fun σ => passAt tk σ) (pa_cons pe_int pa_nil)))
      (pss_one (ps_ret (pe_tup (pa_cons (pe_lst (pa_cons (pv 3) pa_nil)) (pa_cons (pv 3) pa_nil)))))) pss_nil)
      (pss_cons (ps_if (pt_cmpR (op_eqU (hr.units)) (pv 1) (pe_glob rfl T.g_PICK ⟨_, rfl⟩) (nomark _)) (pss_cons (ps_set (i := 3) sc_Reader_own_numbers.nd rfl (Or.inl rfl) (pe_methZ (pv 0) T.cl_Reader T.mt_Reader_how_many G_Reader_how_many (hr.mono (by decide)) T.b_Reader_how_many (fun σ => passAt tk σ) (pa_cons pe_int pa_nil)))
      (pss_one (ps_ret (pe_tup (pa_cons (pe_lst (pa_cons (pv 3) pa_nil)) (pa_cons (pe_op op_addU (pv 3) pe_int) pa_nil)))))) pss_nil)
      (pss_cons (ps_if (pt_cmpR (op_eqU (hr.units)) (pv 1) (pe_glob rfl T.g_CALL ⟨_, rfl⟩) (nomark _)) (pss_cons (ps_asg (pe_dget (hu_of hr) (pe_fld (pv 0) rfl) (pe_methLF (C := Z.c_Reader) (m := "due") (fr := ["self"]) (js := [0]) (N := ["word", "self"]) (tb := (tAndV (tCallS (sp_is_name Z) (WE fun _ _ _ _ => False) (tCons (tVar 0) tNil)) (tDIn (tVar 0) (tFld Z.K (tVar 1) "heads")))) (k := 5) (sp := sp_Reader_due Z) (pv 0) T.cl_Reader T.mt_Reader_due T.F_Reader_due sc_Reader_due T.b_Reader_due TB.b_Reader_own_numbers rfl T.tq_Reader_own_numbers (by rfl) (lam_free (sc := defScope st_Reader_own_numbers) (by decide +kernel)) (by decide +kernel) rfl (hr.mono (by decide)) (fun σ => passAt tk σ)
        (fun cdv F f s H ws v Q E e1 e2 e3 L hr2 h => by
          obtain ⟨_, _, _, _, _, _, _⟩ := F
          subst e2 e3
          exact bd_Reader_due T G_Reader_is_left G_NoText_init (tb := (tAndV (tCallS (sp_is_name Z) (WE fun _ _ _ _ => False) (tCons (tVar 0) tNil)) (tDIn (tVar 0) (tFld Z.K (tVar 1) "heads")))) (k := 5) (kl := 4) (by decide) (by decide) L (NdefX.nscope_by (by first | kernel_rfl | rfl)) (fun _ _ _ => rfl) (fun A outer s H hr => (pe_and (pe_callS G_is_name (hr.mono (by decide)) rfl T.m_is_name T.k_is_name T.b_is_name passC (pa_cons (pv 0) pa_nil)) (pe_one (pe_cmp (pc_din (hu_of hr) (pv 0) (pe_fld (pv 1) rfl)))))) hr2 h)) (fun _ _ => rfl)) (pg_un rfl (pgs_cons (pg_name (i := 4) sc_Reader_own_numbers.nd rfl (Or.inl rfl)) (pgs_cons (pg_name (i := 3) sc_Reader_own_numbers.nd rfl (Or.inl rfl)) pgs_nil))))
      (pss_one (ps_ret (pe_tup (pa_cons (pe_lst (pa_cons (pv 4) pa_nil)) (pa_cons (pv 3) pa_nil)))))) pss_nil)
      (pss_cons (ps_if (pt_cmpR (op_eqU (hr.units)) (pv 1) (pe_glob rfl T.g_LOOP ⟨_, rfl⟩) (nomark _)) (pss_one (ps_ret (pe_tup (pa_cons (pe_lst pa_nil) (pa_cons pe_int pa_nil))))) pss_nil)
      (pss_one (ps_ret (pe_tup (pa_cons (pe_lst pa_nil) (pa_cons (pe_callS G_parts_of (hr.mono (by decide)) rfl T.m_parts_of T.k_parts_of T.b_parts_of (fun σ => passAt tk σ) (pa_cons (pv 1) pa_nil)) pa_nil))))))))))

theorem sc_is_node_word : FnScope nm_is_node_word ["word", "boxes"] (defScope st_is_node_word) := ⟨rfl, rfl, rfl, by decide +kernel, rfl, by decide +kernel, by decide +kernel⟩
theorem ok_is_node_word {P : Program} {w : World} {base : Heap} {Z : Adr} (T : Top Z) (TB : TBs base Z) (G_is_number_word : FnOk P w Z.K Z.mg base (L2.CX P w) 3 Z.f_is_number_word Z.d_is_number_word ["word"] (sp_is_number_word Z)) (G_kind_of : FnOk P w Z.K Z.mg base (L2.CX P w) 2 Z.f_kind_of Z.d_kind_of ["word"] (sp_kind_of Z)) : FnOk P w Z.K Z.mg base (L2.CX P w) 4 Z.f_is_node_word Z.d_is_node_word ["word", "boxes"] (sp_is_node_word Z) := by
  refine FnOk.mono (T.F_is_node_word.okX (k := 3) sc_is_node_word (fun vs H Q E h => ?_) (fun cdv A outer s H vs Q E hr h => ?_)) (by decide)
  · obtain ⟨a0, a1, rfl, _⟩ := h; rfl
  · obtain ⟨a0, a1, rfl, h⟩ := h
    have tk : Takes (cxOf (L2.CX P w) P w Z.K Z.mg base nm_is_node_word "is_node_word" (defScope st_is_node_word) Z.f_is_node_word cdv A outer s H E) (fun cls d _ H => E cls d H) := takes_of rfl rfl rfl rfl
    have po : PassesOwn (model P w) (cxOf (L2.CX P w) P w Z.K Z.mg base nm_is_node_word "is_node_word" (defScope st_is_node_word) Z.f_is_node_word cdv A outer s H E).A (cxOf (L2.CX P w) P w Z.K Z.mg base nm_is_node_word "is_node_word" (defScope st_is_node_word) Z.f_is_node_word cdv A outer s H E).env (cxOf (L2.CX P w) P w Z.K Z.mg base nm_is_node_word "is_node_word" (defScope st_is_node_word) Z.f_is_node_word cdv A outer s H E).xe := passes_of rfl
    refine ⟨t_is_node_word Z (fun cls d _ H => E cls d H), ?_, rd_is_node_word T h⟩
    exact (pss_one (ps_ret (pe_or (pe_cmpR op_in_seq (pv 0) (pv 1) (by rfl)) (pe_or (pe_callS G_is_number_word (hr.mono (by decide)) rfl T.m_is_number_word T.k_is_number_word T.b_is_number_word (fun σ => passAt tk σ) (pa_cons (pv 0) pa_nil)) (pe_one (pe_cmpR op_notU (pe_callS G_kind_of (hr.mono (by decide)) rfl T.m_kind_of T.k_kind_of T.b_kind_of (fun σ => passAt tk σ) (pa_cons (pv 0) pa_nil)) pe_non (nomark _)))))))

theorem sc_read_text : FnScope nm_read_text ["text"] (defScope st_read_text) := ⟨rfl, rfl, rfl, by decide +kernel, rfl, by decide +kernel, by decide +kernel⟩
theorem ok_read_text {P : Program} {w : World} {base : Heap} {Z : Adr} (T : Top Z) (TB : TBs base Z) (G_Reader_init : FnOk P w Z.K Z.mg base (L2.CX P w) 2 Z.f_Reader_init Z.d_Reader_init ["self", "words"] (sp_Reader_init Z)) (G_words_of : FnOk P w Z.K Z.mg base (L2.CX P w) 3 Z.f_words_of Z.d_words_of ["text"] (sp_words_of Z)) (G_Reader_is_left : FnOk P w Z.K Z.mg base (L2.CX P w) 1 Z.f_Reader_is_left Z.d_Reader_is_left ["self"] (sp_Reader_is_left Z)) (G_NoText_init : FnOk P w Z.K Z.mg base (L2.CX P w) 1 Z.f_NoText_init Z.d_NoText_init ["self", "at"] (sp_NoText_init Z)) (G_Reader_fixed_word : FnOk P w Z.K Z.mg base (L2.CX P w) 4 Z.f_Reader_fixed_word Z.d_Reader_fixed_word ["self", "word"] (sp_Reader_fixed_word Z)) (G_Reader_fresh_name : FnOk P w Z.K Z.mg base (L2.CX P w) 6 Z.f_Reader_fresh_name Z.d_Reader_fresh_name ["self", "taken"] (sp_Reader_fresh_name Z)) (G_Reader_boxes_to : FnOk P w Z.K Z.mg base (L2.CX P w) 7 Z.f_Reader_boxes_to Z.d_Reader_boxes_to ["self", "end", "boxes", "most"] (sp_Reader_boxes_to Z)) (G_Reader_node : FnOk P w Z.K Z.mg base (L2.CX P w) (7 + 12) Z.f_Reader_node Z.d_Reader_node ["self", "boxes", "deep"] (sp_Reader_node Z 12)) : FnOk P w Z.K Z.mg base (L2.CX P w) 20 Z.f_read_text Z.d_read_text ["text"] (sp_read_text Z) := by
  refine FnOk.mono (T.F_read_text.okX (k := 19) sc_read_text (fun vs H Q E h => ?_) (fun cdv A outer s H vs Q E hr h => ?_)) (by decide)
  · obtain ⟨a0, rfl, _⟩ := h; rfl
  · obtain ⟨a0, rfl, h⟩ := h
    have tk : Takes (cxOf (L2.CX P w) P w Z.K Z.mg base nm_read_text "read_text" (defScope st_read_text) Z.f_read_text cdv A outer s H E) (fun cls d _ H => E cls d H) := takes_of rfl rfl rfl rfl
    have po : PassesOwn (model P w) (cxOf (L2.CX P w) P w Z.K Z.mg base nm_read_text "read_text" (defScope st_read_text) Z.f_read_text cdv A outer s H E).A (cxOf (L2.CX P w) P w Z.K Z.mg base nm_read_text "read_text" (defScope st_read_text) Z.f_read_text cdv A outer s H E).env (cxOf (L2.CX P w) P w Z.K Z.mg base nm_read_text "read_text" (defScope st_read_text) Z.f_read_text cdv A outer s H E).xe := passes_of rfl
    refine ⟨t_read_text Z (fun cls d _ H => E cls d H), ?_, rd_read_text T h⟩
    exact (pss_cons (ps_set (i := 1) sc_read_text.nd rfl (Or.inl rfl) (pe_makeZ T.M_Reader G_Reader_init (hr.mono (by decide)) rfl T.g_Reader T.b_Reader_init (fun σ => passAt tk σ) (pa_cons (pe_callS G_words_of (hr.mono (by decide)) rfl T.m_words_of T.k_words_of T.b_words_of (fun σ => passAt tk σ) (pa_cons (pv 0) pa_nil)) pa_nil)))
      (pss_cons (ps_set (i := 2) sc_read_text.nd rfl (Or.inl rfl) (pe_lst pa_nil))
      (pss_cons (ps_set (i := 3) sc_read_text.nd rfl (Or.inl rfl) (pe_lst pa_nil))
      (pss_cons (ps_set (i := 4) sc_read_text.nd rfl (Or.inl rfl) (pe_lst pa_nil))
      (pss_cons (ps_while po (PW.pt (pw_or (pt_cmpR (op_eqU (hr.units)) (pv 2) (pe_lst pa_nil) (nomark _)) (pw_or1 (pt_val (pe_meth0Z (pv 1) T.cl_Reader T.mt_Reader_is_left G_Reader_is_left (hr.mono (by decide)) T.b_Reader_is_left (fun σ => passAt tk σ)))))) (pss_cons (ps_if (pt_cmpR (op_eqU (hr.units)) (pe_callB call_len' (by rfl) T.n_len (by decide +kernel) (pa_cons (pv 2) pa_nil)) (pe_glob rfl T.g_MOST_FUNCTIONS ⟨_, rfl⟩) (nomark _)) (pss_one (ps_raiseO rfl tk T.ox_NoText T.oi_NoText T.ot_NoText G_NoText_init (hr.mono (by decide)) T.b_NoText_init passF rfl T.g_NoText (pa_cons (pe_fld (pv 1) rfl) pa_nil))) pss_nil)
      (pss_cons (ps_expr (pe_methZ (pv 1) T.cl_Reader T.mt_Reader_fixed_word G_Reader_fixed_word (hr.mono (by decide)) T.b_Reader_fixed_word (fun σ => passAt tk σ) (pa_cons pe_str pa_nil)))
      (pss_cons (ps_set (i := 5) sc_read_text.nd rfl (Or.inl rfl) (pe_methZ (pv 1) T.cl_Reader T.mt_Reader_fresh_name G_Reader_fresh_name (hr.mono (by decide)) T.b_Reader_fresh_name (fun σ => passAt tk σ) (pa_cons (pe_lc (own := [(".0", 8), ("one", 9)]) (g := (gName 9)) (tt := tYes) rfl sc_read_text.nd (pi_list (pv 2)) (blkOk_by (own := [(".0", 8), ("one", 9)]) (N := nm_read_text) (sc := defScope st_read_text) (by decide +kernel)) (fun _ _ _ _ _ => (pg_name (i := 9) sc_read_text.nd rfl (Or.inl rfl))) (fun _ _ _ _ _ => pts_nil) (fun _ _ _ _ _ => (pe_ix ix_seq (pv 9) pe_int (fun _ _ => rfl)))) pa_nil)))
      (pss_cons (ps_set (i := 6) sc_read_text.nd rfl (Or.inl rfl) (pe_lst pa_nil))
      (pss_cons (ps_expr (pe_methZ (pv 1) T.cl_Reader T.mt_Reader_boxes_to G_Reader_boxes_to (hr.mono (by decide)) T.b_Reader_boxes_to (fun σ => passAt tk σ) (pa_cons pe_str (pa_cons (pv 6) (pa_cons (pe_op op_ml (pe_glob rfl T.g_MOST_PARAMS ⟨_, rfl⟩) (pe_callTy call_int' (by rfl) T.n_int (by decide +kernel) (pa_cons (pe_cmpR (op_neU (hr.units)) (pv 2) (pe_lst pa_nil) (nomark _)) pa_nil))) pa_nil)))))
      (pss_cons (ps_set (i := 7) sc_read_text.nd rfl (Or.inl rfl) (pe_callB call_len' (by rfl) T.n_len (by decide +kernel) (pa_cons (pv 6) pa_nil)))
      (pss_cons (ps_expr (pe_methZ (pv 1) T.cl_Reader T.mt_Reader_boxes_to G_Reader_boxes_to (hr.mono (by decide)) T.b_Reader_boxes_to (fun σ => passAt tk σ) (pa_cons pe_str (pa_cons (pv 6) (pa_cons (pe_glob rfl T.g_MOST_BOXES ⟨_, rfl⟩) pa_nil)))))
      (pss_cons (ps_expr (pe_bm PySem.F.plainAttrs_list PySem.F.slot_list_extend PySem.F.type_list_extend mt_extend (pv 3) (pa_cons (pe_lst (pa_cons (pv 7) (pa_cons (pe_callB call_len' (by rfl) T.n_len (by decide +kernel) (pa_cons (pv 6) pa_nil)) pa_nil))) pa_nil)))
      (pss_cons (ps_expr (pe_bm PySem.F.plainAttrs_list PySem.F.slot_list_extend PySem.F.type_list_extend mt_extend (pv 4) (pa_cons (pe_methZ (pv 1) T.cl_Reader T.mt_Reader_node G_Reader_node (hr.mono (by decide)) T.b_Reader_node (fun σ => passAt tk σ) (pa_cons (pv 6) (pa_cons pe_int pa_nil))) pa_nil)))
      (pss_one (ps_expr (pe_bm PySem.F.plainAttrs_list PySem.F.slot_list_append PySem.F.type_list_append mt_append (pv 2) (pa_cons (pe_tup (pa_cons (pv 5) (pa_cons (pe_callTy call_tuple' (by rfl) T.n_tuple (by decide +kernel) (pa_cons (pv 6) pa_nil)) pa_nil))) pa_nil))))))))))))))
      (pss_one (ps_ret (pe_tup (pa_cons (pe_callTy call_tuple' (by rfl) T.n_tuple (by decide +kernel) (pa_cons (pv 2) pa_nil)) (pa_cons (pe_op op_addU (pe_op op_addU (pe_lst (pa_cons (pe_callB call_len' (by rfl) T.n_len (by decide +kernel) (pa_cons (pv 2) pa_nil)) pa_nil)) (pv 3)) (pv 4)) pa_nil))))))))))

theorem sc_Lpen : FnScope nm_Lpen ["_law_script", "_law_k"] (defScope st_Lpen) := ⟨rfl, rfl, rfl, by decide +kernel, rfl, by decide +kernel, by decide +kernel⟩
theorem ok_Lpen {P : Program} {w : World} {base : Heap} {Z : Adr} (T : Top Z) (TB : TBs base Z)  : FnOk P w Z.K Z.mg base (L2.CX P w) 1 Z.f_Lpen Z.d_Lpen ["_law_script", "_law_k"] (sp_Lpen Z) := by
  refine FnOk.mono (T.F_Lpen.okX (k := 0) sc_Lpen (fun vs H Q E h => ?_) (fun cdv A outer s H vs Q E hr h => ?_)) (by decide)
  · obtain ⟨a0, a1, rfl, _⟩ := h; rfl
  · obtain ⟨a0, a1, rfl, h⟩ := h
    have tk : Takes (cxOf (L2.CX P w) P w Z.K Z.mg base nm_Lpen "_law_pen" (defScope st_Lpen) Z.f_Lpen cdv A outer s H E) (fun cls d _ H => E cls d H) := takes_of rfl rfl rfl rfl
    have po : PassesOwn (model P w) (cxOf (L2.CX P w) P w Z.K Z.mg base nm_Lpen "_law_pen" (defScope st_Lpen) Z.f_Lpen cdv A outer s H E).A (cxOf (L2.CX P w) P w Z.K Z.mg base nm_Lpen "_law_pen" (defScope st_Lpen) Z.f_Lpen cdv A outer s H E).env (cxOf (L2.CX P w) P w Z.K Z.mg base nm_Lpen "_law_pen" (defScope st_Lpen) Z.f_Lpen cdv A outer s H E).xe := passes_of rfl
    refine ⟨t_Lpen Z (fun cls d _ H => E cls d H), ?_, rd_Lpen T h⟩
    exact (pss_cons (ps_set (i := 2) sc_Lpen.nd rfl (Or.inl rfl) (pe_op op_addU (pe_op op_ml pe_int (pv 1)) pe_int))
      (C8.pss_cut (ps_if (pt_cmpR op_lt (pv 1) (pe_callB call_len' (by rfl) T.n_len (by decide +kernel) (pa_cons (pv 0) pa_nil)) (nomark _)) (pss_one (ps_set (i := 2) sc_Lpen.nd rfl (Or.inl rfl) (pe_ix ix_seq (pv 0) (pv 1) (fun _ _ => rfl)))) (pss_one (ps_if (pt_cmpR op_gt (pe_callB call_len' (by rfl) T.n_len (by decide +kernel) (pa_cons (pv 0) pa_nil)) pe_int (nomark _)) (pss_one (ps_set (i := 2) sc_Lpen.nd rfl (Or.inl rfl) (pe_op op_addU (pe_op op_md (pe_ix ix_seq (pv 0) (pe_op op_md (pv 1) (pe_callB call_len' (by rfl) T.n_len (by decide +kernel) (pa_cons (pv 0) pa_nil))) (fun _ _ => rfl)) pe_int) (pe_op op_ml pe_int (pv 1))))) pss_nil)))
      (pss_cons (ps_if (pt_cmpR op_ge (pv 2) (pe_powc (by unfold CPow; decide) (by decide +kernel)) (nomark _)) (pss_one (ps_ret (pe_lst (pa_cons (pe_op op_sub (pv 2) (pe_powc (by unfold CPow; decide) (by decide +kernel))) (pa_cons (pe_op op_md (pv 2) pe_int) (pa_cons pe_int pa_nil)))))) pss_nil)
      (pss_one (ps_ret (pe_lst (pa_cons pe_int (pa_cons (pe_op op_md (pv 2) pe_int) (pa_cons pe_int pa_nil)))))))))

theorem sc_Ldraw : FnScope nm_Ldraw ["_law_pen_here", "_law_many"] (defScope st_Ldraw) := ⟨rfl, rfl, rfl, by decide +kernel, rfl, by decide +kernel, by decide +kernel⟩
theorem ok_Ldraw {P : Program} {w : World} {base : Heap} {Z : Adr} (T : Top Z) (TB : TBs base Z)  : FnOk P w Z.K Z.mg base (L2.CX P w) 1 Z.f_Ldraw Z.d_Ldraw ["_law_pen_here", "_law_many"] (sp_Ldraw Z) := by
  refine FnOk.mono (T.F_Ldraw.okX (k := 0) sc_Ldraw (fun vs H Q E h => ?_) (fun cdv A outer s H vs Q E hr h => ?_)) (by decide)
  · obtain ⟨a0, a1, rfl, _⟩ := h; rfl
  · obtain ⟨a0, a1, rfl, h⟩ := h
    have tk : Takes (cxOf (L2.CX P w) P w Z.K Z.mg base nm_Ldraw "_law_draw" (defScope st_Ldraw) Z.f_Ldraw cdv A outer s H E) (fun cls d _ H => E cls d H) := takes_of rfl rfl rfl rfl
    have po : PassesOwn (model P w) (cxOf (L2.CX P w) P w Z.K Z.mg base nm_Ldraw "_law_draw" (defScope st_Ldraw) Z.f_Ldraw cdv A outer s H E).A (cxOf (L2.CX P w) P w Z.K Z.mg base nm_Ldraw "_law_draw" (defScope st_Ldraw) Z.f_Ldraw cdv A outer s H E).env (cxOf (L2.CX P w) P w Z.K Z.mg base nm_Ldraw "_law_draw" (defScope st_Ldraw) Z.f_Ldraw cdv A outer s H E).xe := passes_of rfl
    refine ⟨t_Ldraw Z (fun cls d _ H => E cls d H), ?_, rd_Ldraw T h⟩
    exact (pss_cons (ps_asg (pe_op op_addU (pe_ix ix_seq (pv 0) pe_int (fun _ _ => rfl)) pe_int) (pg_sub (pv 0) pe_int set_list))
      (pss_cons (ps_if (pt_cmpR op_gt (pe_ix ix_seq (pv 0) pe_int (fun _ _ => rfl)) pe_int (nomark _)) (pss_cons (ps_set (i := 2) sc_Ldraw.nd rfl (Or.inl rfl) (pe_op op_md (pe_ix ix_seq (pv 0) pe_int (fun _ _ => rfl)) (pv 1)))
      (pss_cons (ps_asg (pe_op op_fdv (pe_ix ix_seq (pv 0) pe_int (fun _ _ => rfl)) (pv 1)) (pg_sub (pv 0) pe_int set_list))
      (pss_one (ps_ret (pv 2))))) pss_nil)
      (pss_cons (ps_set (i := 3) sc_Ldraw.nd rfl (Or.inl rfl) (pe_op op_md (pe_op op_addU (pe_op op_addU (pe_ix ix_seq (pv 0) pe_int (fun _ _ => rfl)) (pe_op op_ml pe_int (pe_ix ix_seq (pv 0) pe_int (fun _ _ => rfl)))) pe_int) pe_int))
      (pss_cons (ps_set (i := 3) sc_Ldraw.nd rfl (Or.inl rfl) (pe_op op_addU (pe_op op_md (pe_op op_ml (pv 3) (pv 3)) pe_int) (pe_op op_ml pe_int (pe_ix ix_seq (pv 0) pe_int (fun _ _ => rfl)))))
      (pss_cons (ps_set (i := 3) sc_Ldraw.nd rfl (Or.inl rfl) (pe_op op_md (pe_op op_ml (pv 3) (pv 3)) pe_int))
      (pss_one (ps_ret (pe_op op_md (pe_op op_fdv (pv 3) pe_int) (pv 1)))))))))

theorem sc_Lwords : FnScope nm_Lwords [] (defScope st_Lwords) := ⟨rfl, rfl, rfl, by decide +kernel, rfl, by decide +kernel, by decide +kernel⟩
theorem ok_Lwords {P : Program} {w : World} {base : Heap} {Z : Adr} (T : Top Z) (TB : TBs base Z)  : FnOk P w Z.K Z.mg base (L2.CX P w) 1 Z.f_Lwords Z.d_Lwords [] (sp_Lwords Z) := by
  refine FnOk.mono (T.F_Lwords.okX (k := 0) sc_Lwords (fun vs H Q E h => ?_) (fun cdv A outer s H vs Q E hr h => ?_)) (by decide)
  · obtain ⟨rfl, _⟩ := h; rfl
  · obtain ⟨rfl, h⟩ := h
    have tk : Takes (cxOf (L2.CX P w) P w Z.K Z.mg base nm_Lwords "_law_words" (defScope st_Lwords) Z.f_Lwords cdv A outer s H E) (fun cls d _ H => E cls d H) := takes_of rfl rfl rfl rfl
    have po : PassesOwn (model P w) (cxOf (L2.CX P w) P w Z.K Z.mg base nm_Lwords "_law_words" (defScope st_Lwords) Z.f_Lwords cdv A outer s H E).A (cxOf (L2.CX P w) P w Z.K Z.mg base nm_Lwords "_law_words" (defScope st_Lwords) Z.f_Lwords cdv A outer s H E).env (cxOf (L2.CX P w) P w Z.K Z.mg base nm_Lwords "_law_words" (defScope st_Lwords) Z.f_Lwords cdv A outer s H E).xe := passes_of rfl
    refine ⟨t_Lwords Z (fun cls d _ H => E cls d H), ?_, rd_Lwords T h⟩
    exact (pss_cons (ps_set (i := 0) sc_Lwords.nd rfl (Or.inl rfl) pe_str)
      (pss_one (ps_ret (pe_bm PySem.F.plainAttrs_str PySem.F.slot_str_split PySem.F.type_str_split mt_split (pv 0) (pa_cons pe_str pa_nil)))))

theorem sc_Lname : FnScope nm_Lname ["_law_pen_here", "_law_taken"] (defScope st_Lname) := ⟨rfl, rfl, rfl, by decide +kernel, rfl, by decide +kernel, by decide +kernel⟩
theorem ok_Lname {P : Program} {w : World} {base : Heap} {Z : Adr} (T : Top Z) (TB : TBs base Z) (G_Ldraw : FnOk P w Z.K Z.mg base (L2.CX P w) 1 Z.f_Ldraw Z.d_Ldraw ["_law_pen_here", "_law_many"] (sp_Ldraw Z)) (G_Lwords : FnOk P w Z.K Z.mg base (L2.CX P w) 1 Z.f_Lwords Z.d_Lwords [] (sp_Lwords Z)) : FnOk P w Z.K Z.mg base (L2.CX P w) 2 Z.f_Lname Z.d_Lname ["_law_pen_here", "_law_taken"] (sp_Lname Z) := by
  refine FnOk.mono (T.F_Lname.okX (k := 1) sc_Lname (fun vs H Q E h => ?_) (fun cdv A outer s H vs Q E hr h => ?_)) (by decide)
  · obtain ⟨a0, a1, rfl, _⟩ := h; rfl
  · obtain ⟨a0, a1, rfl, h⟩ := h
    have tk : Takes (cxOf (L2.CX P w) P w Z.K Z.mg base nm_Lname "_law_name" (defScope st_Lname) Z.f_Lname cdv A outer s H E) (fun cls d _ H => E cls d H) := takes_of rfl rfl rfl rfl
    have po : PassesOwn (model P w) (cxOf (L2.CX P w) P w Z.K Z.mg base nm_Lname "_law_name" (defScope st_Lname) Z.f_Lname cdv A outer s H E).A (cxOf (L2.CX P w) P w Z.K Z.mg base nm_Lname "_law_name" (defScope st_Lname) Z.f_Lname cdv A outer s H E).env (cxOf (L2.CX P w) P w Z.K Z.mg base nm_Lname "_law_name" (defScope st_Lname) Z.f_Lname cdv A outer s H E).xe := passes_of rfl
    refine ⟨t_Lname Z (fun cls d _ H => E cls d H), ?_, rd_Lname T h⟩
    exact (pss_cons (ps_set (i := 2) sc_Lname.nd rfl (Or.inr rfl) pe_str)
      (pss_cons (ps_set (i := 3) sc_Lname.nd rfl (Or.inl rfl) (pe_ix ix_seq (pe_lst (pa_cons pe_int (pa_cons pe_int (pa_cons pe_int (pa_cons pe_int (pa_cons pe_int (pa_cons (pe_op op_addU pe_int (pe_callS G_Ldraw (hr.mono (by decide)) rfl T.m_Ldraw T.k_Ldraw T.b_Ldraw (fun σ => passAt tk σ) (pa_cons (pv 0) (pa_cons pe_int pa_nil)))) pa_nil))))))) (pe_callS G_Ldraw (hr.mono (by decide)) rfl T.m_Ldraw T.k_Ldraw T.b_Ldraw (fun σ => passAt tk σ) (pa_cons (pv 0) (pa_cons pe_int pa_nil))) (fun _ _ => rfl)))
      (pss_cons (ps_setLc (i := 4) (own := [(".0", 5), ("_law_k", 6)]) (g := (gName 6)) (tt := tYes) rfl sc_Lname.nd rfl rfl (sw_true rfl rfl rfl (by decide +kernel)) (pi_range1 rfl T.n_range (pa_cons (pv 3) pa_nil)) (blkOk_by (own := [(".0", 5), ("_law_k", 6)]) (N := nm_Lname) (sc := defScope st_Lname) (by decide +kernel)) (fun _ _ _ _ _ => (pg_name (i := 6) sc_Lname.nd rfl (Or.inl rfl))) (fun _ _ _ _ _ => pts_nil) (fun _ _ _ _ _ => (pe_ix ix_seq (pv 2) (pe_callS G_Ldraw (hr.mono (by decide)) rfl T.m_Ldraw T.k_Ldraw T.b_Ldraw passC (pa_cons (pv 0) (pa_cons pe_int pa_nil))) (fun _ _ => rfl))))
      (pss_cons (ps_while po (pt_cmpR op_in_seq (pe_bm PySem.F.plainAttrs_str PySem.F.slot_str_join PySem.F.type_str_join mt_join pe_str (pa_cons (pv 4) pa_nil)) (pe_op op_addU (pv 1) (pe_call0Z G_Lwords (hr.mono (by decide)) rfl T.m_Lwords T.k_Lwords T.b_Lwords (fun σ => passAt tk σ))) (by rfl)) (pss_one (ps_asg (pe_ix ix_seq (pv 2) (pe_op op_md (pe_op op_addU (pe_bm PySem.F.plainAttrs_str PySem.F.slot_str_index PySem.F.type_str_index mt_sindex (pv 2) (pa_cons (pe_ix ix_seq (pv 4) (pe_un un_neg pe_int) (fun _ _ => rfl)) pa_nil)) pe_int) pe_int) (fun _ _ => rfl)) (pg_sub (pv 4) (pe_un un_neg pe_int) set_list))))
      (pss_one (ps_ret (pe_bm PySem.F.plainAttrs_str PySem.F.slot_str_join PySem.F.type_str_join mt_join pe_str (pa_cons (pv 4) pa_nil))))))))

theorem sc_Lheads : FnScope nm_Lheads ["_law_pen_here", "_law_most"] (defScope st_Lheads) := ⟨rfl, rfl, rfl, by decide +kernel, rfl, by decide +kernel, by decide +kernel⟩
theorem ok_Lheads {P : Program} {w : World} {base : Heap} {Z : Adr} (T : Top Z) (TB : TBs base Z) (G_Ldraw : FnOk P w Z.K Z.mg base (L2.CX P w) 1 Z.f_Ldraw Z.d_Ldraw ["_law_pen_here", "_law_many"] (sp_Ldraw Z)) (G_Lname : FnOk P w Z.K Z.mg base (L2.CX P w) 2 Z.f_Lname Z.d_Lname ["_law_pen_here", "_law_taken"] (sp_Lname Z)) : FnOk P w Z.K Z.mg base (L2.CX P w) 3 Z.f_Lheads Z.d_Lheads ["_law_pen_here", "_law_most"] (sp_Lheads Z) := by
  refine FnOk.mono (T.F_Lheads.okX (k := 2) sc_Lheads (fun vs H Q E h => ?_) (fun cdv A outer s H vs Q E hr h => ?_)) (by decide)
  · obtain ⟨a0, a1, rfl, _⟩ := h; rfl
  · obtain ⟨a0, a1, rfl, h⟩ := h
    have tk : Takes (cxOf (L2.CX P w) P w Z.K Z.mg base nm_Lheads "_law_heads" (defScope st_Lheads) Z.f_Lheads cdv A outer s H E) (fun cls d _ H => E cls d H) := takes_of rfl rfl rfl rfl
    have po : PassesOwn (model P w) (cxOf (L2.CX P w) P w Z.K Z.mg base nm_Lheads "_law_heads" (defScope st_Lheads) Z.f_Lheads cdv A outer s H E).A (cxOf (L2.CX P w) P w Z.K Z.mg base nm_Lheads "_law_heads" (defScope st_Lheads) Z.f_Lheads cdv A outer s H E).env (cxOf (L2.CX P w) P w Z.K Z.mg base nm_Lheads "_law_heads" (defScope st_Lheads) Z.f_Lheads cdv A outer s H E).xe := passes_of rfl
    refine ⟨t_Lheads Z (fun cls d _ H => E cls d H), ?_, rd_Lheads T h⟩
    exact (pss_cons (ps_set (i := 2) sc_Lheads.nd rfl (Or.inl rfl) (pe_lst pa_nil))
      (pss_cons (ps_set (i := 3) sc_Lheads.nd rfl (Or.inl rfl) (pe_lst pa_nil))
      (pss_cons (ps_for po rfl (pi_range1 rfl T.n_range (pa_cons (pe_op op_addU pe_int (pe_callS G_Ldraw (hr.mono (by decide)) rfl T.m_Ldraw T.k_Ldraw T.b_Ldraw (fun σ => passAt tk σ) (pa_cons (pv 0) (pa_cons (pv 1) pa_nil)))) pa_nil)) (pg_name (i := 4) sc_Lheads.nd rfl (Or.inl rfl)) (pss_cons (ps_set (i := 5) sc_Lheads.nd rfl (Or.inl rfl) (pe_callS G_Lname (hr.mono (by decide)) rfl T.m_Lname T.k_Lname T.b_Lname (fun σ => passAt tk σ) (pa_cons (pv 0) (pa_cons (pv 3) pa_nil))))
      (pss_cons (ps_expr (pe_bm PySem.F.plainAttrs_list PySem.F.slot_list_append PySem.F.type_list_append mt_append (pv 3) (pa_cons (pv 5) pa_nil)))
      (pss_cons (ps_set (i := 6) sc_Lheads.nd rfl (Or.inl rfl) (pe_op op_ml (pe_callS G_Ldraw (hr.mono (by decide)) rfl T.m_Ldraw T.k_Ldraw T.b_Ldraw (fun σ => passAt tk σ) (pa_cons (pv 0) (pa_cons pe_int pa_nil))) (pe_callTy call_int' (by rfl) T.n_int (by decide +kernel) (pa_cons (pe_cmpR op_gt (pv 4) pe_int (nomark _)) pa_nil))))
      (pss_cons (ps_set (i := 7) sc_Lheads.nd rfl (Or.inl rfl) (pe_lst pa_nil))
      (pss_cons (ps_for po rfl (pi_range1 rfl T.n_range (pa_cons (pe_op op_addU (pv 6) (pe_callS G_Ldraw (hr.mono (by decide)) rfl T.m_Ldraw T.k_Ldraw T.b_Ldraw (fun σ => passAt tk σ) (pa_cons (pv 0) (pa_cons (pe_ix ix_seq (pe_lst (pa_cons pe_int (pa_cons (pe_op op_sub pe_int (pv 6)) pa_nil))) (pe_callTy call_int' (by rfl) T.n_int (by decide +kernel) (pa_cons (pe_cmpR (op_eqU (hr.units)) (pe_callS G_Ldraw (hr.mono (by decide)) rfl T.m_Ldraw T.k_Ldraw T.b_Ldraw (fun σ => passAt tk σ) (pa_cons (pv 0) (pa_cons pe_int pa_nil))) pe_int (nomark _)) pa_nil)) (fun _ _ => rfl)) pa_nil)))) pa_nil)) (pg_name (i := 8) sc_Lheads.nd rfl (Or.inl rfl)) (pss_one (ps_expr (pe_bm PySem.F.plainAttrs_list PySem.F.slot_list_append PySem.F.type_list_append mt_append (pv 7) (pa_cons (pe_callS G_Lname (hr.mono (by decide)) rfl T.m_Lname T.k_Lname T.b_Lname (fun σ => passAt tk σ) (pa_cons (pv 0) (pa_cons (pv 7) pa_nil))) pa_nil)))))
      (pss_one (ps_expr (pe_bm PySem.F.plainAttrs_list PySem.F.slot_list_append PySem.F.type_list_append mt_append (pv 2) (pa_cons (pe_tup (pa_cons (pv 5) (pa_cons (pe_callTy call_tuple' (by rfl) T.n_tuple (by decide +kernel) (pa_cons (pv 7) pa_nil)) (pa_cons (pv 6) pa_nil)))) pa_nil))))))))))
      (pss_one (ps_ret (pv 2))))))

theorem sc_Lnumber : FnScope nm_Lnumber ["_law_pen_here", "_law_is_far"] (defScope st_Lnumber) := ⟨rfl, rfl, rfl, by decide +kernel, rfl, by decide +kernel, by decide +kernel⟩
theorem ok_Lnumber {P : Program} {w : World} {base : Heap} {Z : Adr} (T : Top Z) (TB : TBs base Z) (G_Ldraw : FnOk P w Z.K Z.mg base (L2.CX P w) 1 Z.f_Ldraw Z.d_Ldraw ["_law_pen_here", "_law_many"] (sp_Ldraw Z)) : FnOk P w Z.K Z.mg base (L2.CX P w) 2 Z.f_Lnumber Z.d_Lnumber ["_law_pen_here", "_law_is_far"] (sp_Lnumber Z) := by
  refine FnOk.mono (T.F_Lnumber.okX (k := 1) sc_Lnumber (fun vs H Q E h => ?_) (fun cdv A outer s H vs Q E hr h => ?_)) (by decide)
  · obtain ⟨a0, a1, rfl, _⟩ := h; rfl
  · obtain ⟨a0, a1, rfl, h⟩ := h
    have tk : Takes (cxOf (L2.CX P w) P w Z.K Z.mg base nm_Lnumber "_law_number" (defScope st_Lnumber) Z.f_Lnumber cdv A outer s H E) (fun cls d _ H => E cls d H) := takes_of rfl rfl rfl rfl
    have po : PassesOwn (model P w) (cxOf (L2.CX P w) P w Z.K Z.mg base nm_Lnumber "_law_number" (defScope st_Lnumber) Z.f_Lnumber cdv A outer s H E).A (cxOf (L2.CX P w) P w Z.K Z.mg base nm_Lnumber "_law_number" (defScope st_Lnumber) Z.f_Lnumber cdv A outer s H E).env (cxOf (L2.CX P w) P w Z.K Z.mg base nm_Lnumber "_law_number" (defScope st_Lnumber) Z.f_Lnumber cdv A outer s H E).xe := passes_of rfl
    refine ⟨t_Lnumber Z (fun cls d _ H => E cls d H), ?_, rd_Lnumber T h⟩
    exact (pss_cons (ps_set (i := 2) sc_Lnumber.nd rfl (Or.inl rfl) (pe_callS G_Ldraw (hr.mono (by decide)) rfl T.m_Ldraw T.k_Ldraw T.b_Ldraw (fun σ => passAt tk σ) (pa_cons (pv 0) (pa_cons pe_int pa_nil))))
      (pss_cons (ps_if (pt_cmpR op_lt (pv 2) pe_int (nomark _)) (pss_one (ps_ret (pe_op op_sub (pe_callS G_Ldraw (hr.mono (by decide)) rfl T.m_Ldraw T.k_Ldraw T.b_Ldraw (fun σ => passAt tk σ) (pa_cons (pv 0) (pa_cons pe_int pa_nil))) pe_int))) pss_nil)
      (pss_cons (ps_if (PW.pt (pw_or (pt_cmpR (op_eqU (hr.units)) (pv 2) pe_int (nomark _)) (pw_or1 (pt_not (pt_val (pv 1)))))) (pss_one (ps_ret (pe_op op_sub (pe_callS G_Ldraw (hr.mono (by decide)) rfl T.m_Ldraw T.k_Ldraw T.b_Ldraw (fun σ => passAt tk σ) (pa_cons (pv 0) (pa_cons pe_int pa_nil))) pe_int))) pss_nil)
      (pss_one (ps_ret (pe_op op_ml (pe_op op_sub (pe_op op_sub (pe_powc (by unfold CPow; decide) (by decide +kernel)) pe_int) (pe_callS G_Ldraw (hr.mono (by decide)) rfl T.m_Ldraw T.k_Ldraw T.b_Ldraw (fun σ => passAt tk σ) (pa_cons (pv 0) (pa_cons (pe_powc (by unfold CPow; decide) (by decide +kernel)) pa_nil)))) (pe_op op_sub pe_int (pe_op op_ml pe_int (pe_callS G_Ldraw (hr.mono (by decide)) rfl T.m_Ldraw T.k_Ldraw T.b_Ldraw (fun σ => passAt tk σ) (pa_cons (pv 0) (pa_cons pe_int pa_nil)))))))))))

theorem sc_Lshape : FnScope nm_Lshape ["_law_pen_here", "_law_heads_here", "_law_boxes", "_law_left", "_law_deep"] (defScope st_Lshape) := ⟨rfl, rfl, rfl, by decide +kernel, rfl, by decide +kernel, by decide +kernel⟩
theorem ok_Lshape {P : Program} {w : World} {base : Heap} {Z : Adr} (T : Top Z) (TB : TBs base Z) (n : Nat) (G_Ldraw : FnOk P w Z.K Z.mg base (L2.CX P w) 1 Z.f_Ldraw Z.d_Ldraw ["_law_pen_here", "_law_many"] (sp_Ldraw Z)) (G_Lnumber : FnOk P w Z.K Z.mg base (L2.CX P w) 2 Z.f_Lnumber Z.d_Lnumber ["_law_pen_here", "_law_is_far"] (sp_Lnumber Z)) (G_Lwords : FnOk P w Z.K Z.mg base (L2.CX P w) 1 Z.f_Lwords Z.d_Lwords [] (sp_Lwords Z)) (G_Lshape : FnOk P w Z.K Z.mg base (L2.CX P w) (2 + n) Z.f_Lshape Z.d_Lshape ["_law_pen_here", "_law_heads_here", "_law_boxes", "_law_left", "_law_deep"] (sp_Lshape Z n)) : FnOk P w Z.K Z.mg base (L2.CX P w) (2 + n + 1) Z.f_Lshape Z.d_Lshape ["_law_pen_here", "_law_heads_here", "_law_boxes", "_law_left", "_law_deep"] (sp_Lshape Z (n + 1)) := by
  refine T.F_Lshape.okX (k := 2 + n) sc_Lshape (fun vs H Q E h => ?_) (fun cdv A outer s H vs Q E hr h => ?_)
  · obtain ⟨a0, a1, a2, a3, a4, rfl, _⟩ := h; rfl
  · obtain ⟨a0, a1, a2, a3, a4, rfl, h⟩ := h
    have tk : Takes (cxOf (L2.CX P w) P w Z.K Z.mg base nm_Lshape "_law_shape" (defScope st_Lshape) Z.f_Lshape cdv A outer s H E) (fun cls d _ H => E cls d H) := takes_of rfl rfl rfl rfl
    have po : PassesOwn (model P w) (cxOf (L2.CX P w) P w Z.K Z.mg base nm_Lshape "_law_shape" (defScope st_Lshape) Z.f_Lshape cdv A outer s H E).A (cxOf (L2.CX P w) P w Z.K Z.mg base nm_Lshape "_law_shape" (defScope st_Lshape) Z.f_Lshape cdv A outer s H E).env (cxOf (L2.CX P w) P w Z.K Z.mg base nm_Lshape "_law_shape" (defScope st_Lshape) Z.f_Lshape cdv A outer s H E).xe := passes_of rfl
    refine ⟨t_Lshape Z n (fun cls d _ H => E cls d H), ?_, rd_Lshape T h⟩
    exact (pss_cons (ps_asg (pe_op op_sub (pe_ix ix_seq (pv 3) pe_int (fun _ _ => rfl)) pe_int) (pg_sub (pv 3) pe_int set_list))
      (pss_cons (ps_set (i := 5) sc_Lshape.nd rfl (Or.inl rfl) (pe_callS G_Ldraw (hr.mono (by omega)) rfl T.m_Ldraw T.k_Ldraw T.b_Ldraw (fun σ => passAt tk σ) (pa_cons (pv 0) (pa_cons pe_int pa_nil))))
      (C8.pss_cut (ps_if (PW.pt (pw_or (pt_cmpR op_lt (pe_ix ix_seq (pv 3) pe_int (fun _ _ => rfl)) pe_int (nomark _)) (pw_or1 (pt_cmpR (op_eqU (hr.units)) (pv 4) pe_int (nomark _))))) (pss_one (ps_set (i := 5) sc_Lshape.nd rfl (Or.inl rfl) (pe_ix ix_seq (pe_lst (pa_cons pe_int (pa_cons pe_int (pa_cons pe_int pa_nil)))) (pe_callS G_Ldraw (hr.mono (by omega)) rfl T.m_Ldraw T.k_Ldraw T.b_Ldraw (fun σ => passAt tk σ) (pa_cons (pv 0) (pa_cons pe_int pa_nil))) (fun _ _ => rfl)))) pss_nil)
      (C8.pss_cut (ps_if (PW.pt (pw_and (pt_cmpR op_in_seq (pv 5) (pe_tup (pa_cons pe_int (pa_cons pe_int pa_nil))) (by rfl)) (pw_and1 (pt_cmpR (op_eqU (hr.units)) (pv 2) (pe_tup pa_nil) (nomark _))))) (pss_one (ps_set (i := 5) sc_Lshape.nd rfl (Or.inl rfl) pe_int)) pss_nil)
      (pss_cons (ps_if (pt_cmpR (op_eqU (hr.units)) (pv 5) pe_int (nomark _)) (pss_cons (ps_set (i := 6) sc_Lshape.nd rfl (Or.inl rfl) (pe_callS G_Lnumber (hr.mono (by omega)) rfl T.m_Lnumber T.k_Lnumber T.b_Lnumber (fun σ => passAt tk σ) (pa_cons (pv 0) (pa_cons (pe_cmpR op_gt (pe_ix ix_seq (pv 3) pe_int (fun _ _ => rfl)) pe_int (nomark _)) pa_nil))))
      (pss_one (ps_ret (pe_tup (pa_cons (pe_lst (pa_cons (pe_callTy call_str' (by rfl) T.n_str (by decide +kernel) (pa_cons (pv 6) pa_nil)) pa_nil)) (pa_cons (pe_lst (pa_cons pe_int (pa_cons (pv 6) pa_nil))) pa_nil)))))) pss_nil)
      (pss_cons (ps_if (pt_cmpR (op_eqU (hr.units)) (pv 5) pe_int (nomark _)) (pss_cons (ps_set (i := 7) sc_Lshape.nd rfl (Or.inl rfl) (pe_callS G_Ldraw (hr.mono (by omega)) rfl T.m_Ldraw T.k_Ldraw T.b_Ldraw (fun σ => passAt tk σ) (pa_cons (pv 0) (pa_cons (pe_callB call_len' (by rfl) T.n_len (by decide +kernel) (pa_cons (pv 2) pa_nil)) pa_nil))))
      (pss_one (ps_ret (pe_tup (pa_cons (pe_lst (pa_cons (pe_ix ix_seq (pv 2) (pv 7) (fun _ _ => rfl)) pa_nil)) (pa_cons (pe_lst (pa_cons pe_int (pa_cons (pv 7) pa_nil))) pa_nil)))))) pss_nil)
      (pss_cons (ps_set (i := 8) sc_Lshape.nd rfl (Or.inl rfl) (pe_ix ix_seq (pe_call0Z G_Lwords (hr.mono (by omega)) rfl T.m_Lwords T.k_Lwords T.b_Lwords (fun σ => passAt tk σ)) (pe_op op_addU (pv 5) pe_int) (fun _ _ => rfl)))
      (pss_cons (ps_set (i := 9) sc_Lshape.nd rfl (Or.inl rfl) (pe_ix ix_seq (pe_lst (pa_cons pe_int (pa_cons pe_int (pa_cons pe_int (pa_cons pe_int (pa_cons pe_int (pa_cons pe_int (pa_cons pe_int (pa_cons pe_int (pa_cons pe_int (pa_cons pe_int (pa_cons pe_int (pa_cons pe_int (pa_cons pe_int (pa_cons pe_int (pa_cons pe_int (pa_cons pe_int (pa_cons pe_int (pa_cons pe_int pa_nil))))))))))))))))))) (pe_op op_sub (pv 5) pe_int) (fun _ _ => rfl)))
      (pss_cons (ps_set (i := 10) sc_Lshape.nd rfl (Or.inl rfl) (pe_lst (pa_cons (pv 8) pa_nil)))
      (pss_cons (ps_set (i := 11) sc_Lshape.nd rfl (Or.inl rfl) (pe_lst (pa_cons (pv 5) pa_nil)))
      (C8.pss_cut (ps_if (pt_cmpR (op_eqU (hr.units)) (pv 5) pe_int (nomark _)) (pss_cons (ps_set (i := 7) sc_Lshape.nd rfl (Or.inl rfl) (pe_callS G_Ldraw (hr.mono (by omega)) rfl T.m_Ldraw T.k_Ldraw T.b_Ldraw (fun σ => passAt tk σ) (pa_cons (pv 0) (pa_cons (pe_callB call_len' (by rfl) T.n_len (by decide +kernel) (pa_cons (pv 2) pa_nil)) pa_nil))))
      (pss_cons (ps_expr (pe_bm PySem.F.plainAttrs_list PySem.F.slot_list_append PySem.F.type_list_append mt_append (pv 10) (pa_cons (pe_ix ix_seq (pv 2) (pv 7) (fun _ _ => rfl)) pa_nil)))
      (pss_one (ps_expr (pe_bm PySem.F.plainAttrs_list PySem.F.slot_list_append PySem.F.type_list_append mt_append (pv 11) (pa_cons (pv 7) pa_nil)))))) pss_nil)
      (C8.pss_cut (ps_if (pt_cmpR op_in_seq (pv 5) (pe_tup (pa_cons pe_int (pa_cons pe_int pa_nil))) (by rfl)) (pss_cons (ps_set (i := 12) sc_Lshape.nd rfl (Or.inl rfl) (pe_op op_addU (pe_op op_sub (pv 5) pe_int) (pe_callS G_Ldraw (hr.mono (by omega)) rfl T.m_Ldraw T.k_Ldraw T.b_Ldraw (fun σ => passAt tk σ) (pa_cons (pv 0) (pa_cons (pe_ix ix_seq (pe_lst (pa_cons pe_int (pa_cons (pe_op op_sub pe_int (pv 5)) pa_nil))) (pe_callTy call_int' (by rfl) T.n_int (by decide +kernel) (pa_cons (pe_cmpR (op_eqU (hr.units)) (pe_callS G_Ldraw (hr.mono (by omega)) rfl T.m_Ldraw T.k_Ldraw T.b_Ldraw (fun σ => passAt tk σ) (pa_cons (pv 0) (pa_cons pe_int pa_nil))) pe_int (nomark _)) pa_nil)) (fun _ _ => rfl)) pa_nil)))))
      (pss_cons (ps_expr (pe_bm PySem.F.plainAttrs_list PySem.F.slot_list_append PySem.F.type_list_append mt_append (pv 10) (pa_cons (pe_callTy call_str' (by rfl) T.n_str (by decide +kernel) (pa_cons (pv 12) pa_nil)) pa_nil)))
      (pss_cons (ps_expr (pe_bm PySem.F.plainAttrs_list PySem.F.slot_list_append PySem.F.type_list_append mt_append (pv 11) (pa_cons (pv 12) pa_nil)))
      (pss_one (ps_set (i := 9) sc_Lshape.nd rfl (Or.inl rfl) (pe_op op_sub (pe_op op_addU (pv 12) (pv 5)) pe_int)))))) pss_nil)
      (C8.pss_cut (ps_if (pt_cmpR (op_eqU (hr.units)) (pv 5) pe_int (nomark _)) (pss_cons (ps_set (i := 7) sc_Lshape.nd rfl (Or.inl rfl) (pe_callS G_Ldraw (hr.mono (by omega)) rfl T.m_Ldraw T.k_Ldraw T.b_Ldraw (fun σ => passAt tk σ) (pa_cons (pv 0) (pa_cons (pe_callB call_len' (by rfl) T.n_len (by decide +kernel) (pa_cons (pv 1) pa_nil)) pa_nil))))
      (pss_cons (ps_expr (pe_bm PySem.F.plainAttrs_list PySem.F.slot_list_append PySem.F.type_list_append mt_append (pv 10) (pa_cons (pe_ix ix_seq (pe_ix ix_seq (pv 1) (pv 7) (fun _ _ => rfl)) pe_int (fun _ _ => rfl)) pa_nil)))
      (pss_cons (ps_expr (pe_bm PySem.F.plainAttrs_list PySem.F.slot_list_append PySem.F.type_list_append mt_append (pv 11) (pa_cons (pv 7) pa_nil)))
      (pss_one (ps_set (i := 9) sc_Lshape.nd rfl (Or.inl rfl) (pe_ix ix_seq (pe_ix ix_seq (pv 1) (pv 7) (fun _ _ => rfl)) pe_int (fun _ _ => rfl))))))) pss_nil)
      (pss_cons (ps_for po rfl (pi_range1 rfl T.n_range (pa_cons (pv 9) pa_nil)) (pg_name (i := 13) sc_Lshape.nd rfl (Or.inl rfl)) (pss_cons (ps_asg (pe_callS G_Lshape (hr.mono (by omega)) rfl T.m_Lshape T.k_Lshape T.b_Lshape (fun σ => passAt tk σ) (pa_cons (pv 0) (pa_cons (pv 1) (pa_cons (pv 2) (pa_cons (pv 3) (pa_cons (pe_op op_addU (pv 4) pe_int) pa_nil)))))) (pg_un rfl (pgs_cons (pg_name (i := 14) sc_Lshape.nd rfl (Or.inl rfl)) (pgs_cons (pg_name (i := 15) sc_Lshape.nd rfl (Or.inl rfl)) pgs_nil))))
      (pss_cons (ps_expr (pe_bm PySem.F.plainAttrs_list PySem.F.slot_list_extend PySem.F.type_list_extend mt_extend (pv 10) (pa_cons (pv 14) pa_nil)))
      (pss_one (ps_expr (pe_bm PySem.F.plainAttrs_list PySem.F.slot_list_extend PySem.F.type_list_extend mt_extend (pv 11) (pa_cons (pv 15) pa_nil)))))))
      (pss_one (ps_ret (pe_tup (pa_cons (pv 10) (pa_cons (pv 11) pa_nil)))))))))))))))))))

theorem sc_Lprogram : FnScope nm_Lprogram ["_law_pen_here", "_law_most", "_law_room"] (defScope st_Lprogram) := ⟨rfl, rfl, rfl, by decide +kernel, rfl, by decide +kernel, by decide +kernel⟩
theorem ok_Lprogram {P : Program} {w : World} {base : Heap} {Z : Adr} (T : Top Z) (TB : TBs base Z) (G_Lheads : FnOk P w Z.K Z.mg base (L2.CX P w) 3 Z.f_Lheads Z.d_Lheads ["_law_pen_here", "_law_most"] (sp_Lheads Z)) (G_Lshape : FnOk P w Z.K Z.mg base (L2.CX P w) (2 + 12) Z.f_Lshape Z.d_Lshape ["_law_pen_here", "_law_heads_here", "_law_boxes", "_law_left", "_law_deep"] (sp_Lshape Z 12)) : FnOk P w Z.K Z.mg base (L2.CX P w) 15 Z.f_Lprogram Z.d_Lprogram ["_law_pen_here", "_law_most", "_law_room"] (sp_Lprogram Z) := by
  refine FnOk.mono (T.F_Lprogram.okX (k := 14) sc_Lprogram (fun vs H Q E h => ?_) (fun cdv A outer s H vs Q E hr h => ?_)) (by decide)
  · obtain ⟨a0, a1, a2, rfl, _⟩ := h; rfl
  · obtain ⟨a0, a1, a2, rfl, h⟩ := h
    have tk : Takes (cxOf (L2.CX P w) P w Z.K Z.mg base nm_Lprogram "_law_program" (defScope st_Lprogram) Z.f_Lprogram cdv A outer s H E) (fun cls d _ H => E cls d H) := takes_of rfl rfl rfl rfl
    have po : PassesOwn (model P w) (cxOf (L2.CX P w) P w Z.K Z.mg base nm_Lprogram "_law_program" (defScope st_Lprogram) Z.f_Lprogram cdv A outer s H E).A (cxOf (L2.CX P w) P w Z.K Z.mg base nm_Lprogram "_law_program" (defScope st_Lprogram) Z.f_Lprogram cdv A outer s H E).env (cxOf (L2.CX P w) P w Z.K Z.mg base nm_Lprogram "_law_program" (defScope st_Lprogram) Z.f_Lprogram cdv A outer s H E).xe := passes_of rfl
    refine ⟨t_Lprogram Z (fun cls d _ H => E cls d H), ?_, rd_Lprogram T h⟩
    exact (pss_cons (ps_set (i := 3) sc_Lprogram.nd rfl (Or.inl rfl) (pe_callS G_Lheads (hr.mono (by decide)) rfl T.m_Lheads T.k_Lheads T.b_Lheads (fun σ => passAt tk σ) (pa_cons (pv 0) (pa_cons (pv 1) pa_nil))))
      (pss_cons (ps_set (i := 7) sc_Lprogram.nd rfl (Or.inl rfl) (pe_callTy call_tuple' (by rfl) T.n_tuple (by decide +kernel) (pa_cons (pe_lc (own := [(".0", 13), ("_law_name_here", 4), ("_law_boxes", 5), ("_law_params", 6)]) (g := (gUn Z.K 3 (gCons (gName 4) (gCons (gName 5) (gCons (gName 6) gNil))))) (tt := tYes) rfl sc_Lprogram.nd (pi_list (pv 3)) (blkOk_by (own := [(".0", 13), ("_law_name_here", 4), ("_law_boxes", 5), ("_law_params", 6)]) (N := nm_Lprogram) (sc := defScope st_Lprogram) (by decide +kernel)) (fun _ _ _ _ _ => (pg_un rfl (pgs_cons (pg_name (i := 4) sc_Lprogram.nd rfl (Or.inl rfl)) (pgs_cons (pg_name (i := 5) sc_Lprogram.nd rfl (Or.inl rfl)) (pgs_cons (pg_name (i := 6) sc_Lprogram.nd rfl (Or.inl rfl)) pgs_nil))))) (fun _ _ _ _ _ => pts_nil) (fun _ _ _ _ _ => (pe_tup (pa_cons (pv 4) (pa_cons (pv 5) pa_nil))))) pa_nil)))
      (pss_cons (ps_set (i := 8) sc_Lprogram.nd rfl (Or.inl rfl) (pe_lst (pa_cons (pe_callB call_len' (by rfl) T.n_len (by decide +kernel) (pa_cons (pv 3) pa_nil)) pa_nil)))
      (pss_cons (ps_for po rfl (pi_list (pv 3)) (pg_un rfl (pgs_cons (pg_name (i := 4) sc_Lprogram.nd rfl (Or.inl rfl)) (pgs_cons (pg_name (i := 5) sc_Lprogram.nd rfl (Or.inl rfl)) (pgs_cons (pg_name (i := 6) sc_Lprogram.nd rfl (Or.inl rfl)) pgs_nil)))) (pss_one (ps_expr (pe_bm PySem.F.plainAttrs_list PySem.F.slot_list_extend PySem.F.type_list_extend mt_extend (pv 8) (pa_cons (pe_lst (pa_cons (pv 6) (pa_cons (pe_callB call_len' (by rfl) T.n_len (by decide +kernel) (pa_cons (pv 5) pa_nil)) pa_nil))) pa_nil)))))
      (pss_cons (ps_set (i := 9) sc_Lprogram.nd rfl (Or.inl rfl) (pe_lst pa_nil))
      (pss_cons (ps_for po rfl (pi_list (pv 3)) (pg_un rfl (pgs_cons (pg_name (i := 4) sc_Lprogram.nd rfl (Or.inl rfl)) (pgs_cons (pg_name (i := 5) sc_Lprogram.nd rfl (Or.inl rfl)) (pgs_cons (pg_name (i := 6) sc_Lprogram.nd rfl (Or.inl rfl)) pgs_nil)))) (pss_cons (ps_asg (pe_callS G_Lshape (hr.mono (by decide)) rfl T.m_Lshape T.k_Lshape T.b_Lshape (fun σ => passAt tk σ) (pa_cons (pv 0) (pa_cons (pv 3) (pa_cons (pv 5) (pa_cons (pe_lst (pa_cons (pv 2) pa_nil)) (pa_cons pe_int pa_nil)))))) (pg_un rfl (pgs_cons (pg_name (i := 10) sc_Lprogram.nd rfl (Or.inl rfl)) (pgs_cons (pg_name (i := 11) sc_Lprogram.nd rfl (Or.inl rfl)) pgs_nil))))
      (pss_cons (ps_set (i := 12) sc_Lprogram.nd rfl (Or.inl rfl) (pe_op op_addU (pe_op op_addU (pe_op op_addU (pe_op op_addU (pe_lst (pa_cons pe_str (pa_cons (pv 4) pa_nil))) (pe_callTy call_list' (by rfl) T.n_list (by decide +kernel) (pa_cons (pe_slice sl_U (pv 5) po_none (po_some (pv 6))) pa_nil))) (pe_lst (pa_cons pe_str pa_nil))) (pe_callTy call_list' (by rfl) T.n_list (by decide +kernel) (pa_cons (pe_slice sl_U (pv 5) (po_some (pv 6)) po_none) pa_nil))) (pe_lst (pa_cons pe_str pa_nil))))
      (pss_cons (ps_expr (pe_bm PySem.F.plainAttrs_list PySem.F.slot_list_append PySem.F.type_list_append mt_append (pv 9) (pa_cons (pe_op op_addU (pv 12) (pv 10)) pa_nil)))
      (pss_one (ps_expr (pe_bm PySem.F.plainAttrs_list PySem.F.slot_list_extend PySem.F.type_list_extend mt_extend (pv 8) (pa_cons (pv 11) pa_nil))))))))
      (pss_one (ps_ret (pe_tup (pa_cons (pv 7) (pa_cons (pv 8) (pa_cons (pv 9) pa_nil))))))))))))

theorem sc_Lright : FnScope nm_Lright ["_law_e", "_law_at"] (defScope st_Lright) := ⟨rfl, rfl, rfl, by decide +kernel, rfl, by decide +kernel, by decide +kernel⟩
theorem ok_Lright {P : Program} {w : World} {base : Heap} {Z : Adr} (T : Top Z) (TB : TBs base Z)  : FnOk P w Z.K Z.mg base (L2.CX P w) 1 Z.f_Lright Z.d_Lright ["_law_e", "_law_at"] (sp_Lright Z) := by
  refine FnOk.mono (T.F_Lright.okX (k := 0) sc_Lright (fun vs H Q E h => ?_) (fun cdv A outer s H vs Q E hr h => ?_)) (by decide)
  · obtain ⟨a0, a1, rfl, _⟩ := h; rfl
  · obtain ⟨a0, a1, rfl, h⟩ := h
    have tk : Takes (cxOf (L2.CX P w) P w Z.K Z.mg base nm_Lright "_law_right" (defScope st_Lright) Z.f_Lright cdv A outer s H E) (fun cls d _ H => E cls d H) := takes_of rfl rfl rfl rfl
    have po : PassesOwn (model P w) (cxOf (L2.CX P w) P w Z.K Z.mg base nm_Lright "_law_right" (defScope st_Lright) Z.f_Lright cdv A outer s H E).A (cxOf (L2.CX P w) P w Z.K Z.mg base nm_Lright "_law_right" (defScope st_Lright) Z.f_Lright cdv A outer s H E).env (cxOf (L2.CX P w) P w Z.K Z.mg base nm_Lright "_law_right" (defScope st_Lright) Z.f_Lright cdv A outer s H E).xe := passes_of rfl
    refine ⟨t_Lright Z (fun cls d _ H => E cls d H), ?_, rd_Lright T h⟩
    exact (pss_cons (ps_if (PW.pt (pw_or (pt_not (pt_val (pe_callB call_isi3 (by rfl) T.n_isinstance (by decide +kernel) (pa_cons (pv 0) (pa_cons (pe_glob rfl T.g_NoText rfl) pa_nil))))) (pw_or (pt_not (pt_val (pe_callB call_isi3 (by rfl) T.n_isinstance (by decide +kernel) (pa_cons (pv 0) (pa_cons (pe_bltn (by rfl) T.n_ValueError (by decide +kernel) rfl) pa_nil))))) (pw_or1 (pt_val (pe_callB call_isi3 (by rfl) T.n_isinstance (by decide +kernel) (pa_cons (pv 0) (pa_cons (pe_tup (pa_cons (pe_glob rfl T.g_NoCode rfl) (pa_cons (pe_glob rfl T.g_NoName rfl) (pa_cons (pe_glob rfl T.g_NoRow rfl) (pa_cons (pe_glob rfl T.g_NoSheet rfl) pa_nil))))) pa_nil)))))))) (pss_one (ps_ret pe_bl)) pss_nil)
      (pss_one (ps_ret (pe_and (pe_callB call_isi' (by rfl) T.n_isinstance (by decide +kernel) (pa_cons (pe_kf (pv 0)) (pa_cons (pe_bltn (by rfl) T.n_int (by decide +kernel) rfl) pa_nil))) (pe_and (pe_not (pe_callB call_isi' (by rfl) T.n_isinstance (by decide +kernel) (pa_cons (pe_kf (pv 0)) (pa_cons (pe_bltn (by rfl) T.n_bool (by decide +kernel) rfl) pa_nil)))) (pe_one (pe_cmpR (op_eqU (hr.units)) (pe_kf (pv 0)) (pv 1) (nomark _))))))))

theorem sc_Lcaught : FnScope nm_Lcaught ["_law_text"] (defScope st_Lcaught) := ⟨rfl, rfl, rfl, by decide +kernel, rfl, by decide +kernel, by decide +kernel⟩
theorem ok_Lcaught {P : Program} {w : World} {base : Heap} {Z : Adr} (T : Top Z) (TB : TBs base Z) (G_read_text : FnOk P w Z.K Z.mg base (L2.CX P w) 20 Z.f_read_text Z.d_read_text ["text"] (sp_read_text Z)) : FnOk P w Z.K Z.mg base (L2.CX P w) 21 Z.f_Lcaught Z.d_Lcaught ["_law_text"] (sp_Lcaught Z) := by
  refine FnOk.mono (T.F_Lcaught.okX (k := 20) sc_Lcaught (fun vs H Q E h => ?_) (fun cdv A outer s H vs Q E hr h => ?_)) (by decide)
  · obtain ⟨a0, rfl, _⟩ := h; rfl
  · obtain ⟨a0, rfl, h⟩ := h
    have tk : Takes (cxOf (L2.CX P w) P w Z.K Z.mg base nm_Lcaught "_law_caught" (defScope st_Lcaught) Z.f_Lcaught cdv A outer s H E) (fun cls d _ H => E cls d H) := takes_of rfl rfl rfl rfl
    have po : PassesOwn (model P w) (cxOf (L2.CX P w) P w Z.K Z.mg base nm_Lcaught "_law_caught" (defScope st_Lcaught) Z.f_Lcaught cdv A outer s H E).A (cxOf (L2.CX P w) P w Z.K Z.mg base nm_Lcaught "_law_caught" (defScope st_Lcaught) Z.f_Lcaught cdv A outer s H E).env (cxOf (L2.CX P w) P w Z.K Z.mg base nm_Lcaught "_law_caught" (defScope st_Lcaught) Z.f_Lcaught cdv A outer s H E).xe := passes_of rfl
    refine ⟨t_Lcaught Z (fun cls d _ H => E cls d H), ?_, rd_Lcaught T h⟩
    exact (pss_cons (ps_set (i := 1) sc_Lcaught.nd rfl (Or.inl rfl) pe_non)
      (pss_cons (ps_try_keep (i := 2) (tb := (fun W => (tDrop (tCallS (sp_read_text Z) (WE W) (tCons (tVar 0) tNil))))) (ts := (tAsg (tVar 2) (gName 1))) rfl rfl rfl sc_Lcaught.nd rfl rfl ⟨rfl, by decide, Or.inl T.g_ChainError⟩ tk (fun W pn xe tk po => (pss_one (ps_expr (pe_callS G_read_text (hr.mono (by decide)) rfl T.m_read_text T.k_read_text T.b_read_text (fun σ => passAt tk σ) (pa_cons (pv 0) pa_nil))))) (fun a oe pn => (pss_one (ps_set (i := 1) sc_Lcaught.nd rfl (Or.inl rfl) (pv 2)))))
      (pss_one (ps_ret (pv 1)))))

theorem sc_Lbad_names : FnScope nm_Lbad_names [] (defScope st_Lbad_names) := ⟨rfl, rfl, rfl, by decide +kernel, rfl, by decide +kernel, by decide +kernel⟩
theorem ok_Lbad_names {P : Program} {w : World} {base : Heap} {Z : Adr} (T : Top Z) (TB : TBs base Z)  : FnOk P w Z.K Z.mg base (L2.CX P w) 1 Z.f_Lbad_names Z.d_Lbad_names [] (sp_Lbad_names Z) := by
  refine FnOk.mono (T.F_Lbad_names.okX (k := 0) sc_Lbad_names (fun vs H Q E h => ?_) (fun cdv A outer s H vs Q E hr h => ?_)) (by decide)
  · obtain ⟨rfl, _⟩ := h; rfl
  · obtain ⟨rfl, h⟩ := h
    have tk : Takes (cxOf (L2.CX P w) P w Z.K Z.mg base nm_Lbad_names "_law_bad_names" (defScope st_Lbad_names) Z.f_Lbad_names cdv A outer s H E) (fun cls d _ H => E cls d H) := takes_of rfl rfl rfl rfl
    have po : PassesOwn (model P w) (cxOf (L2.CX P w) P w Z.K Z.mg base nm_Lbad_names "_law_bad_names" (defScope st_Lbad_names) Z.f_Lbad_names cdv A outer s H E).A (cxOf (L2.CX P w) P w Z.K Z.mg base nm_Lbad_names "_law_bad_names" (defScope st_Lbad_names) Z.f_Lbad_names cdv A outer s H E).env (cxOf (L2.CX P w) P w Z.K Z.mg base nm_Lbad_names "_law_bad_names" (defScope st_Lbad_names) Z.f_Lbad_names cdv A outer s H E).xe := passes_of rfl
    refine ⟨t_Lbad_names Z (fun cls d _ H => E cls d H), ?_, rd_Lbad_names T h⟩
    exact (pss_one (ps_ret (pe_lst (pa_cons pe_str (pa_cons pe_str (pa_cons pe_str (pa_cons pe_str (pa_cons pe_str (pa_cons pe_str (pa_cons pe_str (pa_cons pe_str (pa_cons pe_str (pa_cons pe_str (pa_cons pe_str (pa_cons pe_str pa_nil)))))))))))))))

theorem sc_Lbad_heads : FnScope nm_Lbad_heads ["_law_pen_here", "_law_names", "_law_number_here"] (defScope st_Lbad_heads) := ⟨rfl, rfl, rfl, by decide +kernel, rfl, by decide +kernel, by decide +kernel⟩
theorem ok_Lbad_heads {P : Program} {w : World} {base : Heap} {Z : Adr} (T : Top Z) (TB : TBs base Z) (G_Lbad_names : FnOk P w Z.K Z.mg base (L2.CX P w) 1 Z.f_Lbad_names Z.d_Lbad_names [] (sp_Lbad_names Z)) (G_Ldraw : FnOk P w Z.K Z.mg base (L2.CX P w) 1 Z.f_Ldraw Z.d_Ldraw ["_law_pen_here", "_law_many"] (sp_Ldraw Z)) : FnOk P w Z.K Z.mg base (L2.CX P w) 2 Z.f_Lbad_heads Z.d_Lbad_heads ["_law_pen_here", "_law_names", "_law_number_here"] (sp_Lbad_heads Z) := by
  refine FnOk.mono (T.F_Lbad_heads.okX (k := 1) sc_Lbad_heads (fun vs H Q E h => ?_) (fun cdv A outer s H vs Q E hr h => ?_)) (by decide)
  · obtain ⟨a0, a1, a2, rfl, _⟩ := h; rfl
  · obtain ⟨a0, a1, a2, rfl, h⟩ := h
    have tk : Takes (cxOf (L2.CX P w) P w Z.K Z.mg base nm_Lbad_heads "_law_bad_heads" (defScope st_Lbad_heads) Z.f_Lbad_heads cdv A outer s H E) (fun cls d _ H => E cls d H) := takes_of rfl rfl rfl rfl
    have po : PassesOwn (model P w) (cxOf (L2.CX P w) P w Z.K Z.mg base nm_Lbad_heads "_law_bad_heads" (defScope st_Lbad_heads) Z.f_Lbad_heads cdv A outer s H E).A (cxOf (L2.CX P w) P w Z.K Z.mg base nm_Lbad_heads "_law_bad_heads" (defScope st_Lbad_heads) Z.f_Lbad_heads cdv A outer s H E).env (cxOf (L2.CX P w) P w Z.K Z.mg base nm_Lbad_heads "_law_bad_heads" (defScope st_Lbad_heads) Z.f_Lbad_heads cdv A outer s H E).xe := passes_of rfl
    refine ⟨t_Lbad_heads Z (fun cls d _ H => E cls d H), ?_, rd_Lbad_heads T h⟩
    exact (pss_cons (ps_set (i := 3) sc_Lbad_heads.nd rfl (Or.inl rfl) (pe_ix ix_seq (pe_call0Z G_Lbad_names (hr.mono (by decide)) rfl T.m_Lbad_names T.k_Lbad_names T.b_Lbad_names (fun σ => passAt tk σ)) (pe_callS G_Ldraw (hr.mono (by decide)) rfl T.m_Ldraw T.k_Ldraw T.b_Ldraw (fun σ => passAt tk σ) (pa_cons (pv 0) (pa_cons pe_int pa_nil))) (fun _ _ => rfl)))
      (pss_cons (ps_asg (pe_ix ix_seq (pv 1) (pv 2) (fun _ _ => rfl)) (pg_un rfl (pgs_cons (pg_name (i := 4) sc_Lbad_heads.nd rfl (Or.inl rfl)) (pgs_cons (pg_name (i := 5) sc_Lbad_heads.nd rfl (Or.inl rfl)) pgs_nil))))
      (pss_cons (ps_set (i := 6) sc_Lbad_heads.nd rfl (Or.inl rfl) (pe_callS G_Ldraw (hr.mono (by decide)) rfl T.m_Ldraw T.k_Ldraw T.b_Ldraw (fun σ => passAt tk σ) (pa_cons (pv 0) (pa_cons pe_int pa_nil))))
      (pss_cons (ps_set (i := 7) sc_Lbad_heads.nd rfl (Or.inl rfl) (pe_lst (pa_cons pe_str (pa_cons (pv 4) pa_nil))))
      (pss_cons (ps_if (pt_cmpR (op_eqU (hr.units)) (pv 6) pe_int (nomark _)) (pss_one (ps_ret (pe_tup (pa_cons (pe_lst (pa_cons pe_str (pa_cons (pv 4) (pa_cons pe_str (pa_cons pe_str pa_nil))))) (pa_cons pe_int pa_nil))))) pss_nil)
      (pss_cons (ps_if (pt_cmpR (op_eqU (hr.units)) (pv 6) pe_int (nomark _)) (pss_one (ps_ret (pe_tup (pa_cons (pe_lst (pa_cons pe_str (pa_cons (pe_ix ix_seq (pe_lst (pa_cons (pv 3) (pa_cons (pe_ix ix_seq (pe_ix ix_seq (pv 1) pe_int (fun _ _ => rfl)) pe_int (fun _ _ => rfl)) pa_nil))) (pe_op op_ml (pe_callTy call_int' (by rfl) T.n_int (by decide +kernel) (pa_cons (pe_cmpR op_gt (pv 2) pe_int (nomark _)) pa_nil)) (pe_callS G_Ldraw (hr.mono (by decide)) rfl T.m_Ldraw T.k_Ldraw T.b_Ldraw (fun σ => passAt tk σ) (pa_cons (pv 0) (pa_cons pe_int pa_nil)))) (fun _ _ => rfl)) (pa_cons pe_str (pa_cons pe_str pa_nil))))) (pa_cons pe_int pa_nil))))) pss_nil)
      (pss_cons (ps_if (PW.pt (pw_and (pt_cmpR (op_eqU (hr.units)) (pv 6) pe_int (nomark _)) (pw_and1 (pt_cmpR (op_eqU (hr.units)) (pv 2) pe_int (nomark _))))) (pss_one (ps_ret (pe_tup (pa_cons (pe_op op_addU (pv 7) (pe_lst (pa_cons pe_str (pa_cons pe_str (pa_cons pe_str pa_nil))))) (pa_cons pe_int pa_nil))))) pss_nil)
      (pss_cons (ps_if (pt_cmpR (op_eqU (hr.units)) (pv 6) pe_int (nomark _)) (pss_one (ps_ret (pe_tup (pa_cons (pe_op op_addU (pv 7) (pe_lst (pa_cons pe_str (pa_cons pe_str (pa_cons pe_str (pa_cons pe_str (pa_cons pe_str (pa_cons pe_str (pa_cons pe_str pa_nil))))))))) (pa_cons pe_int pa_nil))))) pss_nil)
      (pss_cons (ps_if (PW.pt (pw_and (pt_cmpR (op_eqU (hr.units)) (pv 6) pe_int (nomark _)) (pw_and1 (pt_cmpR op_gt (pv 2) pe_int (nomark _))))) (pss_one (ps_ret (pe_tup (pa_cons (pe_op op_addU (pe_op op_addU (pe_op op_addU (pv 7) (pe_lst (pa_cons pe_str (pa_cons pe_str (pa_cons pe_str (pa_cons pe_str (pa_cons pe_str pa_nil))))))) (pe_lc (own := [(".0", 8), ("_law_letter", 9)]) (g := (gName 9)) (tt := tYes) rfl sc_Lbad_heads.nd (pi_str pe_str) (blkOk_by (own := [(".0", 8), ("_law_letter", 9)]) (N := nm_Lbad_heads) (sc := defScope st_Lbad_heads) (by decide +kernel)) (fun _ _ _ _ _ => (pg_name (i := 9) sc_Lbad_heads.nd rfl (Or.inl rfl))) (fun _ _ _ _ _ => pts_nil) (fun _ _ _ _ _ => (pe_op op_addU pe_str (pv 9))))) (pe_lst (pa_cons pe_str pa_nil))) (pa_cons pe_int pa_nil))))) pss_nil)
      (pss_cons (ps_if (pt_cmpR (op_eqU (hr.units)) (pv 6) pe_int (nomark _)) (pss_one (ps_ret (pe_tup (pa_cons (pe_op op_addU (pe_op op_addU (pe_op op_addU (pv 7) (pe_lst (pa_cons pe_str pa_nil))) (pe_lc (own := [(".0", 8), ("_law_letter", 9)]) (g := (gName 9)) (tt := tYes) rfl sc_Lbad_heads.nd (pi_str pe_str) (blkOk_by (own := [(".0", 8), ("_law_letter", 9)]) (N := nm_Lbad_heads) (sc := defScope st_Lbad_heads) (by decide +kernel)) (fun _ _ _ _ _ => (pg_name (i := 9) sc_Lbad_heads.nd rfl (Or.inl rfl))) (fun _ _ _ _ _ => pts_nil) (fun _ _ _ _ _ => (pe_op op_addU pe_str (pv 9))))) (pe_lst (pa_cons pe_str pa_nil))) (pa_cons pe_int pa_nil))))) pss_nil)
      (pss_cons (ps_if (pt_cmpR (op_eqU (hr.units)) (pv 6) pe_int (nomark _)) (pss_one (ps_ret (pe_tup (pa_cons (pe_op op_addU (pv 7) (pe_lst (pa_cons pe_str (pa_cons pe_str (pa_cons pe_str (pa_cons pe_str (pa_cons pe_str pa_nil))))))) (pa_cons pe_int pa_nil))))) pss_nil)
      (pss_cons (ps_if (pt_cmpR (op_eqU (hr.units)) (pv 6) pe_int (nomark _)) (pss_one (ps_ret (pe_tup (pa_cons (pe_op op_addU (pv 7) (pe_lst (pa_cons pe_str (pa_cons pe_str (pa_cons (pe_ix ix_seq (pe_lst (pa_cons (pv 3) (pa_cons pe_str pa_nil))) (pe_callS G_Ldraw (hr.mono (by decide)) rfl T.m_Ldraw T.k_Ldraw T.b_Ldraw (fun σ => passAt tk σ) (pa_cons (pv 0) (pa_cons pe_int pa_nil))) (fun _ _ => rfl)) (pa_cons pe_str pa_nil)))))) (pa_cons pe_int pa_nil))))) pss_nil)
      (pss_one (ps_ret (pe_tup (pa_cons (pe_op op_addU (pv 7) (pe_lst (pa_cons (pe_ix ix_seq (pe_lst (pa_cons pe_str (pa_cons pe_str (pa_cons pe_str (pa_cons pe_str pa_nil))))) (pe_callS G_Ldraw (hr.mono (by decide)) rfl T.m_Ldraw T.k_Ldraw T.b_Ldraw (fun σ => passAt tk σ) (pa_cons (pv 0) (pa_cons pe_int pa_nil))) (fun _ _ => rfl)) (pa_cons pe_str (pa_cons pe_str pa_nil))))) (pa_cons pe_int pa_nil)))))))))))))))))

theorem sc_Lbad_bodies : FnScope nm_Lbad_bodies ["_law_pen_here", "_law_names"] (defScope st_Lbad_bodies) := ⟨rfl, rfl, rfl, by decide +kernel, rfl, by decide +kernel, by decide +kernel⟩
theorem ok_Lbad_bodies {P : Program} {w : World} {base : Heap} {Z : Adr} (T : Top Z) (TB : TBs base Z) (G_Ldraw : FnOk P w Z.K Z.mg base (L2.CX P w) 1 Z.f_Ldraw Z.d_Ldraw ["_law_pen_here", "_law_many"] (sp_Ldraw Z)) : FnOk P w Z.K Z.mg base (L2.CX P w) 2 Z.f_Lbad_bodies Z.d_Lbad_bodies ["_law_pen_here", "_law_names"] (sp_Lbad_bodies Z) := by
  refine FnOk.mono (T.F_Lbad_bodies.okX (k := 1) sc_Lbad_bodies (fun vs H Q E h => ?_) (fun cdv A outer s H vs Q E hr h => ?_)) (by decide)
  · obtain ⟨a0, a1, rfl, _⟩ := h; rfl
  · obtain ⟨a0, a1, rfl, h⟩ := h
    have tk : Takes (cxOf (L2.CX P w) P w Z.K Z.mg base nm_Lbad_bodies "_law_bad_bodies" (defScope st_Lbad_bodies) Z.f_Lbad_bodies cdv A outer s H E) (fun cls d _ H => E cls d H) := takes_of rfl rfl rfl rfl
    have po : PassesOwn (model P w) (cxOf (L2.CX P w) P w Z.K Z.mg base nm_Lbad_bodies "_law_bad_bodies" (defScope st_Lbad_bodies) Z.f_Lbad_bodies cdv A outer s H E).A (cxOf (L2.CX P w) P w Z.K Z.mg base nm_Lbad_bodies "_law_bad_bodies" (defScope st_Lbad_bodies) Z.f_Lbad_bodies cdv A outer s H E).env (cxOf (L2.CX P w) P w Z.K Z.mg base nm_Lbad_bodies "_law_bad_bodies" (defScope st_Lbad_bodies) Z.f_Lbad_bodies cdv A outer s H E).xe := passes_of rfl
    refine ⟨t_Lbad_bodies Z (fun cls d _ H => E cls d H), ?_, rd_Lbad_bodies T h⟩
    exact (pss_cons (ps_set (i := 2) sc_Lbad_bodies.nd rfl (Or.inr rfl) (pe_lc (own := [(".0", 5), ("_law_name_here", 6), ("_law_boxes", 7)]) (g := (gUn Z.K 2 (gCons (gName 6) (gCons (gName 7) gNil)))) (tt := tYes) rfl sc_Lbad_bodies.nd (pi_tup (pv 1)) (blkOk_by (own := [(".0", 5), ("_law_name_here", 6), ("_law_boxes", 7)]) (N := nm_Lbad_bodies) (sc := defScope st_Lbad_bodies) (by decide +kernel)) (fun _ _ _ _ _ => (pg_un rfl (pgs_cons (pg_name (i := 6) sc_Lbad_bodies.nd rfl (Or.inl rfl)) (pgs_cons (pg_name (i := 7) sc_Lbad_bodies.nd rfl (Or.inl rfl)) pgs_nil)))) (fun _ _ _ _ _ => pts_nil) (fun _ _ _ _ _ => (pv 6))))
      (pss_cons (ps_set (i := 3) sc_Lbad_bodies.nd rfl (Or.inl rfl) (pe_ix ix_seq (pe_lc (own := [(".0", 5), ("_law_word", 8)]) (g := (gName 8)) (tt := (tTest (tOp (rIn Z.K true) (tVar 8) (tVar 2)))) rfl sc_Lbad_bodies.nd (pi_tup (pe_tup (pa_cons pe_str (pa_cons pe_str (pa_cons pe_str (pa_cons pe_str (pa_cons pe_str pa_nil))))))) (blkOk_by (own := [(".0", 5), ("_law_word", 8)]) (N := nm_Lbad_bodies) (sc := defScope st_Lbad_bodies) (by decide +kernel)) (fun _ _ _ _ _ => (pg_name (i := 8) sc_Lbad_bodies.nd rfl (Or.inl rfl))) (fun _ _ _ _ _ => (pts_one (pt_cmpR op_notIn_seq (pv 8) (pv 2) (by rfl)))) (fun _ _ _ _ _ => (pv 8))) pe_int (fun _ _ => rfl)))
      (pss_cons (ps_set (i := 4) sc_Lbad_bodies.nd rfl (Or.inl rfl) (pe_lst (pa_cons (pe_tup (pa_cons (pe_lst (pa_cons pe_str pa_nil)) (pa_cons pe_int pa_nil))) (pa_cons (pe_tup (pa_cons (pe_lst (pa_cons pe_str pa_nil)) (pa_cons pe_int pa_nil))) (pa_cons (pe_tup (pa_cons (pe_lst (pa_cons pe_str pa_nil)) (pa_cons pe_int pa_nil))) (pa_cons (pe_tup (pa_cons (pe_lst (pa_cons pe_str pa_nil)) (pa_cons pe_int pa_nil))) (pa_cons (pe_tup (pa_cons (pe_lst (pa_cons pe_str (pa_cons pe_str (pa_cons pe_str pa_nil)))) (pa_cons pe_int pa_nil))) (pa_cons (pe_tup (pa_cons (pe_lst (pa_cons pe_str pa_nil)) (pa_cons pe_int pa_nil))) (pa_cons (pe_tup (pa_cons (pe_lst (pa_cons pe_str (pa_cons pe_str pa_nil))) (pa_cons pe_int pa_nil))) pa_nil)))))))))
      (pss_cons (ps_set (i := 4) sc_Lbad_bodies.nd rfl (Or.inl rfl) (pe_op op_addU (pv 4) (pe_lst (pa_cons (pe_tup (pa_cons (pe_lst (pa_cons pe_str (pa_cons pe_str (pa_cons pe_str pa_nil)))) (pa_cons pe_int pa_nil))) (pa_cons (pe_tup (pa_cons (pe_lst (pa_cons pe_str (pa_cons pe_str pa_nil))) (pa_cons pe_int pa_nil))) (pa_cons (pe_tup (pa_cons (pe_lst (pa_cons pe_str (pa_cons pe_str pa_nil))) (pa_cons pe_int pa_nil))) (pa_cons (pe_tup (pa_cons (pe_lst (pa_cons pe_str (pa_cons pe_str (pa_cons pe_str pa_nil)))) (pa_cons pe_int pa_nil))) pa_nil)))))))
      (pss_cons (ps_set (i := 4) sc_Lbad_bodies.nd rfl (Or.inl rfl) (pe_op op_addU (pv 4) (pe_lst (pa_cons (pe_tup (pa_cons (pe_lst (pa_cons pe_str (pa_cons pe_str (pa_cons pe_str pa_nil)))) (pa_cons pe_int pa_nil))) (pa_cons (pe_tup (pa_cons (pe_lst (pa_cons pe_str (pa_cons pe_str (pa_cons pe_str (pa_cons pe_str pa_nil))))) (pa_cons pe_int pa_nil))) (pa_cons (pe_tup (pa_cons (pe_lst (pa_cons pe_str (pa_cons pe_str (pa_cons pe_str pa_nil)))) (pa_cons pe_int pa_nil))) (pa_cons (pe_tup (pa_cons (pe_lst (pa_cons pe_str (pa_cons pe_str pa_nil))) (pa_cons pe_int pa_nil))) pa_nil)))))))
      (pss_cons (ps_set (i := 4) sc_Lbad_bodies.nd rfl (Or.inl rfl) (pe_op op_addU (pv 4) (pe_lst (pa_cons (pe_tup (pa_cons (pe_lst (pa_cons pe_str (pa_cons (pv 3) pa_nil))) (pa_cons pe_int pa_nil))) (pa_cons (pe_tup (pa_cons (pe_lst (pa_cons pe_str (pa_cons pe_str pa_nil))) (pa_cons pe_int pa_nil))) (pa_cons (pe_tup (pa_cons (pe_lst (pa_cons pe_str (pa_cons pe_str pa_nil))) (pa_cons pe_int pa_nil))) (pa_cons (pe_tup (pa_cons (pe_lst (pa_cons (pe_op op_repS pe_str pe_int) pa_nil)) (pa_cons pe_int pa_nil))) (pa_cons (pe_tup (pa_cons (pe_lst (pa_cons pe_str (pa_cons pe_str pa_nil))) (pa_cons pe_int pa_nil))) pa_nil))))))))
      (pss_cons (ps_set (i := 4) sc_Lbad_bodies.nd rfl (Or.inl rfl) (pe_op op_addU (pv 4) (pe_lst (pa_cons (pe_tup (pa_cons (pe_op op_addU (pe_op op_rep (pe_lst (pa_cons pe_str pa_nil)) pe_int) (pe_lst (pa_cons pe_str pa_nil))) (pa_cons pe_int pa_nil))) (pa_cons (pe_tup (pa_cons (pe_op op_addU (pe_op op_rep (pe_lst (pa_cons pe_str (pa_cons pe_str pa_nil))) pe_int) (pe_lst (pa_cons pe_str pa_nil))) (pa_cons pe_int pa_nil))) (pa_cons (pe_tup (pa_cons (pe_lst (pa_cons pe_str (pa_cons pe_str pa_nil))) (pa_cons pe_int pa_nil))) (pa_cons (pe_tup (pa_cons (pe_lst (pa_cons pe_str (pa_cons pe_str pa_nil))) (pa_cons pe_int pa_nil))) pa_nil)))))))
      (pss_cons (ps_set (i := 4) sc_Lbad_bodies.nd rfl (Or.inl rfl) (pe_op op_addU (pv 4) (pe_lst (pa_cons (pe_tup (pa_cons (pe_lst (pa_cons pe_str (pa_cons pe_str (pa_cons pe_str (pa_cons pe_str pa_nil))))) (pa_cons pe_int pa_nil))) (pa_cons (pe_tup (pa_cons (pe_lst (pa_cons pe_str (pa_cons pe_str pa_nil))) (pa_cons pe_int pa_nil))) (pa_cons (pe_tup (pa_cons (pe_lst (pa_cons pe_str (pa_cons pe_str pa_nil))) (pa_cons pe_int pa_nil))) (pa_cons (pe_tup (pa_cons (pe_lst (pa_cons pe_str (pa_cons pe_str (pa_cons pe_str (pa_cons pe_str pa_nil))))) (pa_cons pe_int pa_nil))) pa_nil)))))))
      (pss_cons (ps_set (i := 4) sc_Lbad_bodies.nd rfl (Or.inl rfl) (pe_op op_addU (pv 4) (pe_lst (pa_cons (pe_tup (pa_cons (pe_op op_addU (pe_op op_rep (pe_lst (pa_cons pe_str (pa_cons pe_str pa_nil))) pe_int) (pe_lst (pa_cons pe_str pa_nil))) (pa_cons pe_int pa_nil))) (pa_cons (pe_tup (pa_cons (pe_lst (pa_cons pe_str pa_nil)) (pa_cons pe_int pa_nil))) pa_nil)))))
      (pss_cons (ps_set (i := 4) sc_Lbad_bodies.nd rfl (Or.inl rfl) (pe_op op_addU (pv 4) (pe_lst (pa_cons (pe_tup (pa_cons (pe_op op_addU (pe_op op_rep (pe_lst (pa_cons pe_str (pa_cons pe_str (pa_cons pe_str (pa_cons pe_str pa_nil))))) pe_int) (pe_lst (pa_cons pe_str (pa_cons pe_str (pa_cons pe_str pa_nil))))) (pa_cons pe_int pa_nil))) pa_nil))))
      (pss_cons (ps_set (i := 4) sc_Lbad_bodies.nd rfl (Or.inl rfl) (pe_op op_addU (pv 4) (pe_lst (pa_cons (pe_tup (pa_cons (pe_op op_addU (pe_op op_rep (pe_lst (pa_cons pe_str (pa_cons pe_str pa_nil))) pe_int) (pe_lst (pa_cons pe_str (pa_cons pe_str pa_nil)))) (pa_cons pe_int pa_nil))) (pa_cons (pe_tup (pa_cons (pe_op op_addU (pe_op op_rep (pe_lst (pa_cons pe_str (pa_cons pe_str (pa_cons pe_str pa_nil)))) pe_int) (pe_lst (pa_cons pe_str (pa_cons pe_str pa_nil)))) (pa_cons pe_int pa_nil))) pa_nil)))))
      (pss_cons (ps_set (i := 4) sc_Lbad_bodies.nd rfl (Or.inl rfl) (pe_op op_addU (pv 4) (pe_lst (pa_cons (pe_tup (pa_cons (pe_op op_addU (pe_op op_rep (pe_lst (pa_cons pe_str pa_nil)) pe_int) (pe_lst (pa_cons pe_str pa_nil))) (pa_cons pe_int pa_nil))) (pa_cons (pe_tup (pa_cons (pe_op op_rep (pe_lst (pa_cons pe_str (pa_cons pe_str pa_nil))) pe_int) (pa_cons pe_int pa_nil))) (pa_cons (pe_tup (pa_cons (pe_op op_addU (pe_op op_rep (pe_lst (pa_cons pe_str pa_nil)) pe_int) (pe_lst (pa_cons pe_str pa_nil))) (pa_cons pe_int pa_nil))) pa_nil))))))
      (pss_one (ps_ret (pe_ix ix_seq (pv 4) (pe_callS G_Ldraw (hr.mono (by decide)) rfl T.m_Ldraw T.k_Ldraw T.b_Ldraw (fun σ => passAt tk σ) (pa_cons (pv 0) (pa_cons (pe_callB call_len' (by rfl) T.n_len (by decide +kernel) (pa_cons (pv 4) pa_nil)) pa_nil))) (fun _ _ => rfl))))))))))))))))

theorem sc_Ltexts : FnScope nm_Ltexts [] (defScope st_Ltexts) := ⟨rfl, rfl, rfl, by decide +kernel, rfl, by decide +kernel, by decide +kernel⟩
theorem ok_Ltexts {P : Program} {w : World} {base : Heap} {Z : Adr} (T : Top Z) (TB : TBs base Z)  : FnOk P w Z.K Z.mg base (L2.CX P w) 1 Z.f_Ltexts Z.d_Ltexts [] (sp_Ltexts Z) := by
  refine FnOk.mono (T.F_Ltexts.okX (k := 0) sc_Ltexts (fun vs H Q E h => ?_) (fun cdv A outer s H vs Q E hr h => ?_)) (by decide)
  · obtain ⟨rfl, _⟩ := h; rfl
  · obtain ⟨rfl, h⟩ := h
    have tk : Takes (cxOf (L2.CX P w) P w Z.K Z.mg base nm_Ltexts "_law_texts" (defScope st_Ltexts) Z.f_Ltexts cdv A outer s H E) (fun cls d _ H => E cls d H) := takes_of rfl rfl rfl rfl
    have po : PassesOwn (model P w) (cxOf (L2.CX P w) P w Z.K Z.mg base nm_Ltexts "_law_texts" (defScope st_Ltexts) Z.f_Ltexts cdv A outer s H E).A (cxOf (L2.CX P w) P w Z.K Z.mg base nm_Ltexts "_law_texts" (defScope st_Ltexts) Z.f_Ltexts cdv A outer s H E).env (cxOf (L2.CX P w) P w Z.K Z.mg base nm_Ltexts "_law_texts" (defScope st_Ltexts) Z.f_Ltexts cdv A outer s H E).xe := passes_of rfl
    refine ⟨t_Ltexts Z (fun cls d _ H => E cls d H), ?_, rd_Ltexts T h⟩
    exact (pss_cons (ps_setLc (i := 0) (own := [(".0", 2), ("_law_letter", 3)]) (g := (gName 3)) (tt := tYes) rfl sc_Ltexts.nd rfl rfl (sw_true rfl rfl rfl (by decide +kernel)) (pi_str pe_str) (blkOk_by (own := [(".0", 2), ("_law_letter", 3)]) (N := nm_Ltexts) (sc := defScope st_Ltexts) (by decide +kernel)) (fun _ _ _ _ _ => (pg_name (i := 3) sc_Ltexts.nd rfl (Or.inl rfl))) (fun _ _ _ _ _ => pts_nil) (fun _ _ _ _ _ => (pe_op op_addU (pe_op op_addU pe_str (pv 3)) pe_str)))
      (pss_cons (ps_set (i := 1) sc_Ltexts.nd rfl (Or.inl rfl) (pe_lst (pa_cons (pe_tup (pa_cons (pe_bm PySem.F.plainAttrs_str PySem.F.slot_str_join PySem.F.type_str_join mt_join pe_str (pa_cons (pe_slice sl_U (pv 0) po_none (po_some pe_int)) pa_nil)) (pa_cons pe_non pa_nil))) (pa_cons (pe_tup (pa_cons (pe_bm PySem.F.plainAttrs_str PySem.F.slot_str_join PySem.F.type_str_join mt_join pe_str (pa_cons (pv 0) pa_nil)) (pa_cons pe_int pa_nil))) (pa_cons (pe_tup (pa_cons pe_str (pa_cons pe_int pa_nil))) pa_nil)))))
      (pss_cons (ps_expr (pe_bm PySem.F.plainAttrs_list PySem.F.slot_list_append PySem.F.type_list_append mt_append (pv 1) (pa_cons (pe_tup (pa_cons pe_str (pa_cons pe_int pa_nil))) pa_nil)))
      (pss_cons (ps_expr (pe_bm PySem.F.plainAttrs_list PySem.F.slot_list_append PySem.F.type_list_append mt_append (pv 1) (pa_cons (pe_tup (pa_cons pe_str (pa_cons pe_int pa_nil))) pa_nil)))
      (pss_cons (ps_set (i := 1) sc_Ltexts.nd rfl (Or.inl rfl) (pe_op op_addU (pv 1) (pe_lst (pa_cons (pe_tup (pa_cons pe_str (pa_cons pe_int pa_nil))) (pa_cons (pe_tup (pa_cons pe_str (pa_cons pe_int pa_nil))) pa_nil)))))
      (pss_one (ps_ret (pe_op op_addU (pv 1) (pe_lst (pa_cons (pe_tup (pa_cons (pe_op op_addU (pe_op op_addU pe_str (pe_op op_repS pe_str pe_int)) pe_str) (pa_cons pe_int pa_nil))) pa_nil))))))))))

theorem sc_Lspoilt : FnScope nm_Lspoilt ["_law_pen_here", "_law_names", "_law_lines"] (defScope st_Lspoilt) := ⟨rfl, rfl, rfl, by decide +kernel, rfl, by decide +kernel, by decide +kernel⟩
theorem ok_Lspoilt {P : Program} {w : World} {base : Heap} {Z : Adr} (T : Top Z) (TB : TBs base Z) (G_Ldraw : FnOk P w Z.K Z.mg base (L2.CX P w) 1 Z.f_Ldraw Z.d_Ldraw ["_law_pen_here", "_law_many"] (sp_Ldraw Z)) (G_Lbad_heads : FnOk P w Z.K Z.mg base (L2.CX P w) 2 Z.f_Lbad_heads Z.d_Lbad_heads ["_law_pen_here", "_law_names", "_law_number_here"] (sp_Lbad_heads Z)) (G_Lbad_bodies : FnOk P w Z.K Z.mg base (L2.CX P w) 2 Z.f_Lbad_bodies Z.d_Lbad_bodies ["_law_pen_here", "_law_names"] (sp_Lbad_bodies Z)) : FnOk P w Z.K Z.mg base (L2.CX P w) 3 Z.f_Lspoilt Z.d_Lspoilt ["_law_pen_here", "_law_names", "_law_lines"] (sp_Lspoilt Z) := by
  refine FnOk.mono (T.F_Lspoilt.okX (k := 2) sc_Lspoilt (fun vs H Q E h => ?_) (fun cdv A outer s H vs Q E hr h => ?_)) (by decide)
  · obtain ⟨a0, a1, a2, rfl, _⟩ := h; rfl
  · obtain ⟨a0, a1, a2, rfl, h⟩ := h
    have tk : Takes (cxOf (L2.CX P w) P w Z.K Z.mg base nm_Lspoilt "_law_spoilt" (defScope st_Lspoilt) Z.f_Lspoilt cdv A outer s H E) (fun cls d _ H => E cls d H) := takes_of rfl rfl rfl rfl
    have po : PassesOwn (model P w) (cxOf (L2.CX P w) P w Z.K Z.mg base nm_Lspoilt "_law_spoilt" (defScope st_Lspoilt) Z.f_Lspoilt cdv A outer s H E).A (cxOf (L2.CX P w) P w Z.K Z.mg base nm_Lspoilt "_law_spoilt" (defScope st_Lspoilt) Z.f_Lspoilt cdv A outer s H E).env (cxOf (L2.CX P w) P w Z.K Z.mg base nm_Lspoilt "_law_spoilt" (defScope st_Lspoilt) Z.f_Lspoilt cdv A outer s H E).xe := passes_of rfl
    refine ⟨t_Lspoilt Z (fun cls d _ H => E cls d H), ?_, rd_Lspoilt T h⟩
    exact (pss_cons (ps_set (i := 3) sc_Lspoilt.nd rfl (Or.inl rfl) (pe_callS G_Ldraw (hr.mono (by decide)) rfl T.m_Ldraw T.k_Ldraw T.b_Ldraw (fun σ => passAt tk σ) (pa_cons (pv 0) (pa_cons (pe_callB call_len' (by rfl) T.n_len (by decide +kernel) (pa_cons (pv 2) pa_nil)) pa_nil))))
      (pss_cons (ps_set (i := 4) sc_Lspoilt.nd rfl (Or.inl rfl) (pe_callB (cr_sumL rfl) (by rfl) T.n_sum (by decide +kernel) (pa_cons (pe_slice sl_U (pv 2) po_none (po_some (pv 3))) (pa_cons (pe_lst pa_nil) pa_nil))))
      (pss_cons (ps_if (pt_cmpR (op_eqU (hr.units)) (pe_callS G_Ldraw (hr.mono (by decide)) rfl T.m_Ldraw T.k_Ldraw T.b_Ldraw (fun σ => passAt tk σ) (pa_cons (pv 0) (pa_cons pe_int pa_nil))) pe_int (nomark _)) (pss_cons (ps_asg (pe_callS G_Lbad_heads (hr.mono (by decide)) rfl T.m_Lbad_heads T.k_Lbad_heads T.b_Lbad_heads (fun σ => passAt tk σ) (pa_cons (pv 0) (pa_cons (pv 1) (pa_cons (pv 3) pa_nil)))) (pg_un rfl (pgs_cons (pg_name (i := 5) sc_Lspoilt.nd rfl (Or.inl rfl)) (pgs_cons (pg_name (i := 6) sc_Lspoilt.nd rfl (Or.inl rfl)) pgs_nil))))
      (pss_one (ps_ret (pe_tup (pa_cons (pe_op op_addU (pe_op op_addU (pv 4) (pv 5)) (pe_lst (pa_cons pe_str pa_nil))) (pa_cons (pe_op op_addU (pe_callB call_len' (by rfl) T.n_len (by decide +kernel) (pa_cons (pv 4) pa_nil)) (pv 6)) pa_nil)))))) pss_nil)
      (pss_cons (ps_set (i := 7) sc_Lspoilt.nd rfl (Or.inl rfl) (pe_lst (pa_cons pe_str (pa_cons (pe_ix ix_seq (pe_ix ix_seq (pv 1) (pv 3) (fun _ _ => rfl)) pe_int (fun _ _ => rfl)) (pa_cons pe_str (pa_cons pe_str (pa_cons pe_str pa_nil)))))))
      (pss_cons (ps_asg (pe_callS G_Lbad_bodies (hr.mono (by decide)) rfl T.m_Lbad_bodies T.k_Lbad_bodies T.b_Lbad_bodies (fun σ => passAt tk σ) (pa_cons (pv 0) (pa_cons (pv 1) pa_nil))) (pg_un rfl (pgs_cons (pg_name (i := 5) sc_Lspoilt.nd rfl (Or.inl rfl)) (pgs_cons (pg_name (i := 6) sc_Lspoilt.nd rfl (Or.inl rfl)) pgs_nil))))
      (pss_one (ps_ret (pe_tup (pa_cons (pe_op op_addU (pe_op op_addU (pv 4) (pv 7)) (pv 5)) (pa_cons (pe_op op_addU (pe_op op_addU (pe_callB call_len' (by rfl) T.n_len (by decide +kernel) (pa_cons (pv 4) pa_nil)) pe_int) (pv 6)) pa_nil))))))))))

theorem sc_Llone : FnScope nm_Llone ["_law_names", "_law_lines"] (defScope st_Llone) := ⟨rfl, rfl, rfl, by decide +kernel, rfl, by decide +kernel, by decide +kernel⟩
theorem ok_Llone {P : Program} {w : World} {base : Heap} {Z : Adr} (T : Top Z) (TB : TBs base Z)  : FnOk P w Z.K Z.mg base (L2.CX P w) 1 Z.f_Llone Z.d_Llone ["_law_names", "_law_lines"] (sp_Llone Z) := by
  refine FnOk.mono (T.F_Llone.okX (k := 0) sc_Llone (fun vs H Q E h => ?_) (fun cdv A outer s H vs Q E hr h => ?_)) (by decide)
  · obtain ⟨a0, a1, rfl, _⟩ := h; rfl
  · obtain ⟨a0, a1, rfl, h⟩ := h
    have tk : Takes (cxOf (L2.CX P w) P w Z.K Z.mg base nm_Llone "_law_lone" (defScope st_Llone) Z.f_Llone cdv A outer s H E) (fun cls d _ H => E cls d H) := takes_of rfl rfl rfl rfl
    have po : PassesOwn (model P w) (cxOf (L2.CX P w) P w Z.K Z.mg base nm_Llone "_law_lone" (defScope st_Llone) Z.f_Llone cdv A outer s H E).A (cxOf (L2.CX P w) P w Z.K Z.mg base nm_Llone "_law_lone" (defScope st_Llone) Z.f_Llone cdv A outer s H E).env (cxOf (L2.CX P w) P w Z.K Z.mg base nm_Llone "_law_lone" (defScope st_Llone) Z.f_Llone cdv A outer s H E).xe := passes_of rfl
    refine ⟨t_Llone Z (fun cls d _ H => E cls d H), ?_, rd_Llone T h⟩
    exact (pss_cons (ps_set (i := 2) sc_Llone.nd rfl (Or.inl rfl) (pe_lst pa_nil))
      (pss_cons (ps_for po rfl (pi_list (pv 1)) (pg_name (i := 3) sc_Llone.nd rfl (Or.inl rfl)) (pss_one (ps_expr (pe_bm PySem.F.plainAttrs_list PySem.F.slot_list_append PySem.F.type_list_append mt_append (pv 2) (pa_cons (pe_op op_addU (pe_slice sl_U (pv 3) po_none (po_some (pe_op op_addU (pe_bm PySem.F.plainAttrs_list PySem.F.slot_list_index PySem.F.type_list_index mt_index (pv 3) (pa_cons pe_str pa_nil)) pe_int))) (pe_lst (pa_cons pe_str pa_nil))) pa_nil)))))
      (pss_one (ps_ret (pv 2)))))

theorem sc_law : FnScope nm_law ["_law_script"] (defScope st_law) := ⟨rfl, rfl, rfl, by decide +kernel, rfl, by decide +kernel, by decide +kernel⟩
theorem ok_law {P : Program} {w : World} {base : Heap} {Z : Adr} (T : Top Z) (TB : TBs base Z) (G_Lpen : FnOk P w Z.K Z.mg base (L2.CX P w) 1 Z.f_Lpen Z.d_Lpen ["_law_script", "_law_k"] (sp_Lpen Z)) (G_Lprogram : FnOk P w Z.K Z.mg base (L2.CX P w) 15 Z.f_Lprogram Z.d_Lprogram ["_law_pen_here", "_law_most", "_law_room"] (sp_Lprogram Z)) (G_Llone : FnOk P w Z.K Z.mg base (L2.CX P w) 1 Z.f_Llone Z.d_Llone ["_law_names", "_law_lines"] (sp_Llone Z)) (G_Lcaught : FnOk P w Z.K Z.mg base (L2.CX P w) 21 Z.f_Lcaught Z.d_Lcaught ["_law_text"] (sp_Lcaught Z)) (G_Lspoilt : FnOk P w Z.K Z.mg base (L2.CX P w) 3 Z.f_Lspoilt Z.d_Lspoilt ["_law_pen_here", "_law_names", "_law_lines"] (sp_Lspoilt Z)) (G_Lright : FnOk P w Z.K Z.mg base (L2.CX P w) 1 Z.f_Lright Z.d_Lright ["_law_e", "_law_at"] (sp_Lright Z)) (G_Ldraw : FnOk P w Z.K Z.mg base (L2.CX P w) 1 Z.f_Ldraw Z.d_Ldraw ["_law_pen_here", "_law_many"] (sp_Ldraw Z)) (G_Ltexts : FnOk P w Z.K Z.mg base (L2.CX P w) 1 Z.f_Ltexts Z.d_Ltexts [] (sp_Ltexts Z)) : FnOk P w Z.K Z.mg base (L2.CX P w) 22 Z.f_law Z.d_law ["_law_script"] (sp_law Z) := by
  refine FnOk.mono (T.F_law.okX (k := 21) sc_law (fun vs H Q E h => ?_) (fun cdv A outer s H vs Q E hr h => ?_)) (by decide)
  · obtain ⟨a0, rfl, _⟩ := h; rfl
  · obtain ⟨a0, rfl, h⟩ := h
    have tk : Takes (cxOf (L2.CX P w) P w Z.K Z.mg base nm_law "law" (defScope st_law) Z.f_law cdv A outer s H E) (fun cls d _ H => E cls d H) := takes_of rfl rfl rfl rfl
    have po : PassesOwn (model P w) (cxOf (L2.CX P w) P w Z.K Z.mg base nm_law "law" (defScope st_law) Z.f_law cdv A outer s H E).A (cxOf (L2.CX P w) P w Z.K Z.mg base nm_law "law" (defScope st_law) Z.f_law cdv A outer s H E).env (cxOf (L2.CX P w) P w Z.K Z.mg base nm_law "law" (defScope st_law) Z.f_law cdv A outer s H E).xe := passes_of rfl
    refine ⟨t_law Z (fun cls d _ H => E cls d H), ?_, rd_law T h⟩
    exact (pss_cons (ps_for po rfl (pi_range1 rfl T.n_range (pa_cons pe_int pa_nil)) (pg_name (i := 1) sc_law.nd rfl (Or.inl rfl)) (pss_cons (ps_set (i := 2) sc_law.nd rfl (Or.inl rfl) (pe_callS G_Lpen (hr.mono (by decide)) rfl T.m_Lpen T.k_Lpen T.b_Lpen (fun σ => passAt tk σ) (pa_cons (pv 0) (pa_cons (pv 1) pa_nil))))
      (pss_cons (ps_asg (pe_callS G_Lprogram (hr.mono (by decide)) rfl T.m_Lprogram T.k_Lprogram T.b_Lprogram (fun σ => passAt tk σ) (pa_cons (pv 2) (pa_cons pe_int (pa_cons pe_int pa_nil)))) (pg_un rfl (pgs_cons (pg_name (i := 3) sc_law.nd rfl (Or.inl rfl)) (pgs_cons (pg_name (i := 4) sc_law.nd rfl (Or.inl rfl)) (pgs_cons (pg_name (i := 5) sc_law.nd rfl (Or.inl rfl)) pgs_nil)))))
      (pss_cons (ps_set (i := 6) sc_law.nd rfl (Or.inl rfl) (pe_callS G_Llone (hr.mono (by decide)) rfl T.m_Llone T.k_Llone T.b_Llone (fun σ => passAt tk σ) (pa_cons (pv 3) (pa_cons (pv 5) pa_nil))))
      (pss_cons (ps_if (pt_cmpR op_notU (pe_callS G_Lcaught (hr.mono (by decide)) rfl T.m_Lcaught T.k_Lcaught T.b_Lcaught (fun σ => passAt tk σ) (pa_cons (pe_bm PySem.F.plainAttrs_str PySem.F.slot_str_join PySem.F.type_str_join mt_join pe_str (pa_cons (pe_lc (own := [(".0", 13), ("_law_line", 14)]) (g := (gName 14)) (tt := tYes) rfl sc_law.nd (pi_list (pv 6)) (blkOk_by (own := [(".0", 13), ("_law_line", 14)]) (N := nm_law) (sc := defScope st_law) (by decide +kernel)) (fun _ _ _ _ _ => (pg_name (i := 14) sc_law.nd rfl (Or.inl rfl))) (fun _ _ _ _ _ => pts_nil) (fun _ _ _ _ _ => (pe_bm PySem.F.plainAttrs_str PySem.F.slot_str_join PySem.F.type_str_join mt_join pe_str (pa_cons (pv 14) pa_nil)))) pa_nil)) pa_nil)) pe_non (nomark _)) (pss_one (ps_ret pe_bl)) pss_nil)
      (pss_cons (ps_for po rfl (pi_range1 rfl T.n_range (pa_cons pe_int pa_nil)) (pg_name (i := 7) sc_law.nd rfl (Or.inl rfl)) (pss_cons (ps_asg (pe_callS G_Lspoilt (hr.mono (by decide)) rfl T.m_Lspoilt T.k_Lspoilt T.b_Lspoilt (fun σ => passAt tk σ) (pa_cons (pv 2) (pa_cons (pv 3) (pa_cons (pv 6) pa_nil)))) (pg_un rfl (pgs_cons (pg_name (i := 8) sc_law.nd rfl (Or.inl rfl)) (pgs_cons (pg_name (i := 9) sc_law.nd rfl (Or.inl rfl)) pgs_nil))))
      (pss_one (ps_if (pt_not (pt_val (pe_callS G_Lright (hr.mono (by decide)) rfl T.m_Lright T.k_Lright T.b_Lright (fun σ => passAt tk σ) (pa_cons (pe_callS G_Lcaught (hr.mono (by decide)) rfl T.m_Lcaught T.k_Lcaught T.b_Lcaught (fun σ => passAt tk σ) (pa_cons (pe_bm PySem.F.plainAttrs_str PySem.F.slot_str_join PySem.F.type_str_join mt_join pe_str (pa_cons (pv 8) pa_nil)) pa_nil)) (pa_cons (pv 9) pa_nil))))) (pss_one (ps_ret pe_bl)) pss_nil))))
      (pss_cons (ps_set (i := 8) sc_law.nd rfl (Or.inl rfl) (pe_slice sl_U (pe_callB (cr_sumL rfl) (by rfl) T.n_sum (by decide +kernel) (pa_cons (pe_slice sl_U (pv 5) po_none (po_some pe_int)) (pa_cons (pe_lst pa_nil) pa_nil))) po_none (po_some (pe_op op_addU pe_int (pe_callS G_Ldraw (hr.mono (by decide)) rfl T.m_Ldraw T.k_Ldraw T.b_Ldraw (fun σ => passAt tk σ) (pa_cons (pv 2) (pa_cons (pe_op op_addU pe_int (pe_callB call_len' (by rfl) T.n_len (by decide +kernel) (pa_cons (pe_ix ix_seq (pe_ix ix_seq (pv 3) pe_int (fun _ _ => rfl)) pe_int (fun _ _ => rfl)) pa_nil))) pa_nil)))))))
      (pss_one (ps_if (pt_not (pt_val (pe_callS G_Lright (hr.mono (by decide)) rfl T.m_Lright T.k_Lright T.b_Lright (fun σ => passAt tk σ) (pa_cons (pe_callS G_Lcaught (hr.mono (by decide)) rfl T.m_Lcaught T.k_Lcaught T.b_Lcaught (fun σ => passAt tk σ) (pa_cons (pe_bm PySem.F.plainAttrs_str PySem.F.slot_str_join PySem.F.type_str_join mt_join pe_str (pa_cons (pv 8) pa_nil)) pa_nil)) (pa_cons (pe_callB call_len' (by rfl) T.n_len (by decide +kernel) (pa_cons (pv 8) pa_nil)) pa_nil))))) (pss_one (ps_ret pe_bl)) pss_nil)))))))))
      (pss_cons (ps_for po rfl (pi_list (pe_call0Z G_Ltexts (hr.mono (by decide)) rfl T.m_Ltexts T.k_Ltexts T.b_Ltexts (fun σ => passAt tk σ))) (pg_un rfl (pgs_cons (pg_name (i := 10) sc_law.nd rfl (Or.inl rfl)) (pgs_cons (pg_name (i := 9) sc_law.nd rfl (Or.inl rfl)) pgs_nil))) (pss_cons (ps_set (i := 11) sc_law.nd rfl (Or.inl rfl) (pe_callS G_Lcaught (hr.mono (by decide)) rfl T.m_Lcaught T.k_Lcaught T.b_Lcaught (fun σ => passAt tk σ) (pa_cons (pv 10) pa_nil)))
      (pss_one (ps_if (PW.pt (pw_or (PW.pt (pw_and (pt_cmpR op_isU (pv 9) pe_non (nomark _)) (pw_and1 (pt_cmpR op_notU (pv 11) pe_non (nomark _))))) (pw_or1 (PW.pt (pw_and (pt_cmpR op_notU (pv 9) pe_non (nomark _)) (pw_and1 (pt_not (pt_val (pe_callS G_Lright (hr.mono (by decide)) rfl T.m_Lright T.k_Lright T.b_Lright (fun σ => passAt tk σ) (pa_cons (pv 11) (pa_cons (pv 9) pa_nil))))))))))) (pss_one (ps_ret pe_bl)) pss_nil))))
      (pss_cons (ps_for po rfl (pi_list (pe_lst (pa_cons pe_non (pa_cons pe_int (pa_cons pe_bl (pa_cons (pe_lst pa_nil) (pa_cons (pe_lst (pa_cons pe_str pa_nil)) (pa_cons (pe_tup (pa_cons pe_str pa_nil)) (pa_cons pe_dnewK pa_nil))))))))) (pg_name (i := 12) sc_law.nd rfl (Or.inl rfl)) (pss_one (ps_if (pt_not (pt_val (pe_callS G_Lright (hr.mono (by decide)) rfl T.m_Lright T.k_Lright T.b_Lright (fun σ => passAt tk σ) (pa_cons (pe_callS G_Lcaught (hr.mono (by decide)) rfl T.m_Lcaught T.k_Lcaught T.b_Lcaught (fun σ => passAt tk σ) (pa_cons (pv 12) pa_nil)) (pa_cons pe_int pa_nil))))) (pss_one (ps_ret pe_bl)) pss_nil)))
      (pss_one (ps_ret (pe_and (pe_callS G_Lright (hr.mono (by decide)) rfl T.m_Lright T.k_Lright T.b_Lright (fun σ => passAt tk σ) (pa_cons (pe_callS G_Lcaught (hr.mono (by decide)) rfl T.m_Lcaught T.k_Lcaught T.b_Lcaught (fun σ => passAt tk σ) (pa_cons pe_str pa_nil)) (pa_cons pe_int pa_nil))) (pe_one (pe_callS G_Lright (hr.mono (by decide)) rfl T.m_Lright T.k_Lright T.b_Lright (fun σ => passAt tk σ) (pa_cons (pe_callS G_Lcaught (hr.mono (by decide)) rfl T.m_Lcaught T.k_Lcaught T.b_Lcaught (fun σ => passAt tk σ) (pa_cons pe_str pa_nil)) (pa_cons pe_int pa_nil))))))))))

theorem grp_Reader_node {P : Program} {w : World} {base : Heap} {Z : Adr} (T : Top Z) (TB : TBs base Z) (G_NoText_init : FnOk P w Z.K Z.mg base (L2.CX P w) 1 Z.f_NoText_init Z.d_NoText_init ["self", "at"] (sp_NoText_init Z)) (G_Reader_is_left : FnOk P w Z.K Z.mg base (L2.CX P w) 1 Z.f_Reader_is_left Z.d_Reader_is_left ["self"] (sp_Reader_is_left Z)) (G_is_node_word : FnOk P w Z.K Z.mg base (L2.CX P w) 4 Z.f_is_node_word Z.d_is_node_word ["word", "boxes"] (sp_is_node_word Z)) (G_is_number_word : FnOk P w Z.K Z.mg base (L2.CX P w) 3 Z.f_is_number_word Z.d_is_number_word ["word"] (sp_is_number_word Z)) (G_kind_of : FnOk P w Z.K Z.mg base (L2.CX P w) 2 Z.f_kind_of Z.d_kind_of ["word"] (sp_kind_of Z)) (G_Reader_own_numbers : FnOk P w Z.K Z.mg base (L2.CX P w) 7 Z.f_Reader_own_numbers Z.d_Reader_own_numbers ["self", "kind", "boxes"] (sp_Reader_own_numbers Z)) : ∀ n : Nat, FnOk P w Z.K Z.mg base (L2.CX P w) (7 + n) Z.f_Reader_node Z.d_Reader_node ["self", "boxes", "deep"] (sp_Reader_node Z n)
  | 0 => fn_none fun vs H Q E h => by obtain ⟨_, _, _, rfl, h⟩ := h; exact no_Reader_node h
  | n + 1 => by
    have ih := grp_Reader_node (P := P) (w := w) (base := base) T TB G_NoText_init G_Reader_is_left G_is_node_word G_is_number_word G_kind_of G_Reader_own_numbers n
    have G_Reader_node := ih
    exact ok_Reader_node T TB n G_NoText_init G_Reader_is_left G_is_node_word G_is_number_word G_kind_of G_Reader_own_numbers G_Reader_node

theorem grp_Lshape {P : Program} {w : World} {base : Heap} {Z : Adr} (T : Top Z) (TB : TBs base Z) (G_Ldraw : FnOk P w Z.K Z.mg base (L2.CX P w) 1 Z.f_Ldraw Z.d_Ldraw ["_law_pen_here", "_law_many"] (sp_Ldraw Z)) (G_Lnumber : FnOk P w Z.K Z.mg base (L2.CX P w) 2 Z.f_Lnumber Z.d_Lnumber ["_law_pen_here", "_law_is_far"] (sp_Lnumber Z)) (G_Lwords : FnOk P w Z.K Z.mg base (L2.CX P w) 1 Z.f_Lwords Z.d_Lwords [] (sp_Lwords Z)) : ∀ n : Nat, FnOk P w Z.K Z.mg base (L2.CX P w) (2 + n) Z.f_Lshape Z.d_Lshape ["_law_pen_here", "_law_heads_here", "_law_boxes", "_law_left", "_law_deep"] (sp_Lshape Z n)
  | 0 => fn_none fun vs H Q E h => by obtain ⟨_, _, _, _, _, rfl, h⟩ := h; exact no_Lshape h
  | n + 1 => by
    have ih := grp_Lshape (P := P) (w := w) (base := base) T TB G_Ldraw G_Lnumber G_Lwords n
    have G_Lshape := ih
    exact ok_Lshape T TB n G_Ldraw G_Lnumber G_Lwords G_Lshape
/-! ### the end -/
def tqf (K : PySem.W.Frag) : Addr → Str := fun a => if a = (He.cT K (("Reader", some "fixed_word") : He.Defn)).2 then ("Reader.fixed_word" ++ ".<locals>.") ++ "<lambda>" else if a = (He.cT K (("Reader", some "fresh_name") : He.Defn)).2 then ("Reader.fresh_name" ++ ".<locals>.") ++ "<lambda>" else if a = (He.cT K (("Reader", some "how_many") : He.Defn)).2 then ("Reader.how_many" ++ ".<locals>.") ++ "<lambda>" else if a = (He.cT K (("Reader", some "node") : He.Defn)).2 then ("Reader.node" ++ ".<locals>.") ++ "<lambda>" else if a = (He.cT K (("Reader", some "own_numbers") : He.Defn)).2 then ("Reader.own_numbers" ++ ".<locals>.") ++ "<lambda>" else ""
abbrev csK (K : PySem.W.Frag) : List (Addr × Addr) := htf.map (He.cT K)
def sp_goal (K : PySem.W.Frag) : Sp := fun vs H Q _ => ∃ (a : Addr) (ns : List Int), vs = [.ref a] ∧ (∀ p ∈ csK K, H p.2 = some (.tbl #[])) ∧ SqL K H a (ns.map V.int) ∧ ns.length ≤ 63 ∧ ∀ v H', v = .bl true → Q v H'
theorem goal_fn {P : Program} {w : World} {K : PySem.W.Frag} {mg : Str → Option Value} {base : Heap} {k : Nat} {f : Addr} {fd : FuncData} (Z : Adr) (hZ : Z.K = K) (hT : ∀ H : Hp, (∀ p ∈ csK K, TabG H p.2) → TabsZ Z H) (G : FnOk P w K mg base (L2.CX P w) k f fd ["_law_script"] (sp_law Z)) : FnOk P w K mg base (L2.CX P w) k f fd ["_law_script"] (sp_goal K) := by
  subst hZ
  refine _root_.Z.fn_frz G (fun vs H Q E h => by obtain ⟨a, ns, rfl, _⟩ := h; rfl) fun vs H Q E h => ?_
  obtain ⟨a, ns, rfl, ht, hs, hl, hq⟩ := h
  have tabs : ∀ {H' : Hp}, (∀ p ∈ csK Z.K, H' p.2 = some (.tbl #[])) → TabsZ Z H' := fun h' => hT _ fun p hp => LamX.TabS.nil (h' p hp)
  rcases hs with (hs | ⟨o, hs⟩) | hs
  · exact .inr ⟨a, _, hs, fun o => ⟨_, rfl, a, ns, rfl, tabs fun p hp => (L2.upd_ne (fun z => by
      have q := ht p hp
      rw [z, hs] at q
      cases q)).trans (ht p hp), .inl ⟨o, L2.upd_same⟩, hl, fun H' => hq _ _ rfl⟩⟩
  · exact .inl ⟨_, rfl, a, ns, rfl, tabs ht, .inl ⟨o, hs⟩, hl, fun H' => hq _ _ rfl⟩
  · exact .inl ⟨_, rfl, a, ns, rfl, tabs ht, .inr hs, hl, fun H' => hq _ _ rfl⟩

theorem hfacts {P : Program} {w : World} {K : PySem.W.Frag} {h : Heap} {mg : Str → Option Value} {f : Addr} (KX : K.In h) (G : h.Ns mainGlobals mg) (hlaw0 : mg "law" = some (.ref f)) (cc : ∀ c ∈ hcs, _root_.Z.SaysM c.fa c.fn c.tf c.ex c.tx c.dc w h K) (hiq : iq = ⟨tqf K⟩) :
    ∃ fd : FuncData, (∀ (s : Shared) (v : Value), BindsTo s fd ⟨[v], []⟩ [("_law_script", v)]) ∧ ∀ base : Heap, K.In base → base.Ns mainGlobals mg → (∀ p ∈ csK K, LamX.TabB base mg p.1 p.2) → ∃ Z : Adr, Z.K = K ∧ (∀ H : Hp, (∀ p ∈ csK K, TabG H p.2) → TabsZ Z H) ∧ FnOk P w K mg base (L2.CX P w) 22 f fd ["_law_script"] (sp_law Z) := by
  have c0 : _root_.Z.SaysM hfa0 hfn0 htf hex0 htx hdc w h K := cc hc0 (List.mem_of_getElem? (i := 0) rfl)
  have c1 : _root_.Z.SaysM hfa1 hfn1 [] hex1 [] [] w h K := cc hc1 (List.mem_of_getElem? (i := 1) rfl)
  have c2 : _root_.Z.SaysM hfa2 hfn2 [] hex2 [] [] w h K := cc hc2 (List.mem_of_getElem? (i := 2) rfl)
  obtain ⟨tk_NUMBER, i_NUMBER⟩ := He.int_ok KX G (c0.d.fact 0 (f := .int "NUMBER" 0) rfl)
  obtain ⟨tk_GET, i_GET⟩ := He.int_ok KX G (c0.d.fact 1 (f := .int "GET" 1) rfl)
  obtain ⟨tk_SET, i_SET⟩ := He.int_ok KX G (c0.d.fact 2 (f := .int "SET" 2) rfl)
  obtain ⟨tk_ALL, i_ALL⟩ := He.int_ok KX G (c0.d.fact 3 (f := .int "ALL" 3) rfl)
  obtain ⟨tk_PICK, i_PICK⟩ := He.int_ok KX G (c0.d.fact 4 (f := .int "PICK" 4) rfl)
  obtain ⟨tk_LOOP, i_LOOP⟩ := He.int_ok KX G (c0.d.fact 5 (f := .int "LOOP" 5) rfl)
  obtain ⟨tk_CALL, i_CALL⟩ := He.int_ok KX G (c0.d.fact 6 (f := .int "CALL" 6) rfl)
  obtain ⟨tk_FAIL, i_FAIL⟩ := He.int_ok KX G (c0.d.fact 7 (f := .int "FAIL" 7) rfl)
  obtain ⟨tk_PUT, i_PUT⟩ := He.int_ok KX G (c0.d.fact 8 (f := .int "PUT" 17) rfl)
  obtain ⟨tk_SIZE, i_SIZE⟩ := He.int_ok KX G (c0.d.fact 9 (f := .int "SIZE" 18) rfl)
  obtain ⟨tk_NEW, i_NEW⟩ := He.int_ok KX G (c0.d.fact 10 (f := .int "NEW" 19) rfl)
  obtain ⟨tk_LETTERS, i_LETTERS⟩ := He.str_ok KX G (c0.d.fact 11 (f := .str "LETTERS" "abcdefghijklmnopqrstuvwxyz") rfl)
  obtain ⟨tk_FIGURES, i_FIGURES⟩ := He.str_ok KX G (c0.d.fact 12 (f := .str "FIGURES" "0123456789") rfl)
  obtain ⟨tk_MOST_LETTERS, i_MOST_LETTERS⟩ := He.int_ok KX G (c0.d.fact 13 (f := .int "MOST_LETTERS" 8) rfl)
  obtain ⟨tk_MOST_FIGURES, i_MOST_FIGURES⟩ := He.int_ok KX G (c0.d.fact 14 (f := .int "MOST_FIGURES" 60) rfl)
  obtain ⟨tk_MOST_FUNCTIONS, i_MOST_FUNCTIONS⟩ := He.int_ok KX G (c0.d.fact 15 (f := .int "MOST_FUNCTIONS" 16) rfl)
  obtain ⟨tk_MOST_PARAMS, i_MOST_PARAMS⟩ := He.int_ok KX G (c0.d.fact 16 (f := .int "MOST_PARAMS" 4) rfl)
  obtain ⟨tk_MOST_BOXES, i_MOST_BOXES⟩ := He.int_ok KX G (c0.d.fact 17 (f := .int "MOST_BOXES" 12) rfl)
  obtain ⟨tk_MOST_PARTS, i_MOST_PARTS⟩ := He.int_ok KX G (c0.d.fact 18 (f := .int "MOST_PARTS" 12) rfl)
  obtain ⟨tk_DEEPEST, i_DEEPEST⟩ := He.int_ok KX G (c0.d.fact 19 (f := .int "DEEPEST" 10) rfl)
  obtain ⟨d_NoText_init, F_NoText_init⟩ := c0.func 0 (p := ("NoText", some "__init__")) (st := st_NoText_init) rfl
  obtain ⟨d_word_of, F_word_of⟩ := c0.func 1 (p := ("word_of", none)) (st := st_word_of) rfl
  obtain ⟨d_kind_of, F_kind_of⟩ := c0.func 2 (p := ("kind_of", none)) (st := st_kind_of) rfl
  obtain ⟨d_parts_of, F_parts_of⟩ := c0.func 3 (p := ("parts_of", none)) (st := st_parts_of) rfl
  obtain ⟨d_is_of, F_is_of⟩ := c0.func 4 (p := ("is_of", none)) (st := st_is_of) rfl
  obtain ⟨d_is_name, F_is_name⟩ := c0.func 5 (p := ("is_name", none)) (st := st_is_name) rfl
  obtain ⟨d_is_number_of, F_is_number_of⟩ := c0.func 6 (p := ("is_number_of", none)) (st := st_is_number_of) rfl
  obtain ⟨d_is_number_word, F_is_number_word⟩ := c0.func 7 (p := ("is_number_word", none)) (st := st_is_number_word) rfl
  obtain ⟨d_words_of, F_words_of⟩ := c0.func 8 (p := ("words_of", none)) (st := st_words_of) rfl
  obtain ⟨d_heads_inp, F_heads_inp⟩ := c0.func 9 (p := ("heads_in", none)) (st := st_heads_inp) rfl
  obtain ⟨d_Reader_init, F_Reader_init⟩ := c0.func 10 (p := ("Reader", some "__init__")) (st := st_Reader_init) rfl
  obtain ⟨d_Reader_is_left, F_Reader_is_left⟩ := c0.func 11 (p := ("Reader", some "is_left")) (st := st_Reader_is_left) rfl
  obtain ⟨d_Reader_due, F_Reader_due⟩ := c0.func 12 (p := ("Reader", some "due")) (st := st_Reader_due) rfl
  obtain ⟨d_Reader_fixed_word, F_Reader_fixed_word⟩ := c0.func 13 (p := ("Reader", some "fixed_word")) (st := st_Reader_fixed_word) rfl
  obtain ⟨d_Reader_fresh_name, F_Reader_fresh_name⟩ := c0.func 14 (p := ("Reader", some "fresh_name")) (st := st_Reader_fresh_name) rfl
  obtain ⟨d_Reader_boxes_to, F_Reader_boxes_to⟩ := c0.func 15 (p := ("Reader", some "boxes_to")) (st := st_Reader_boxes_to) rfl
  obtain ⟨d_Reader_how_many, F_Reader_how_many⟩ := c0.func 16 (p := ("Reader", some "how_many")) (st := st_Reader_how_many) rfl
  obtain ⟨d_Reader_node, F_Reader_node⟩ := c0.func 17 (p := ("Reader", some "node")) (st := st_Reader_node) rfl
  obtain ⟨d_Reader_own_numbers, F_Reader_own_numbers⟩ := c0.func 18 (p := ("Reader", some "own_numbers")) (st := st_Reader_own_numbers) rfl
  obtain ⟨d_is_node_word, F_is_node_word⟩ := c0.func 19 (p := ("is_node_word", none)) (st := st_is_node_word) rfl
  obtain ⟨d_read_text, F_read_text⟩ := c0.func 20 (p := ("read_text", none)) (st := st_read_text) rfl
  obtain ⟨d_Lpen, F_Lpen⟩ := c0.func 21 (p := ("_law_pen", none)) (st := st_Lpen) rfl
  obtain ⟨d_Ldraw, F_Ldraw⟩ := c0.func 22 (p := ("_law_draw", none)) (st := st_Ldraw) rfl
  obtain ⟨d_Lwords, F_Lwords⟩ := c0.func 23 (p := ("_law_words", none)) (st := st_Lwords) rfl
  obtain ⟨d_Lname, F_Lname⟩ := c1.func 0 (p := ("_law_name", none)) (st := st_Lname) rfl
  obtain ⟨d_Lheads, F_Lheads⟩ := c1.func 1 (p := ("_law_heads", none)) (st := st_Lheads) rfl
  obtain ⟨d_Lnumber, F_Lnumber⟩ := c1.func 2 (p := ("_law_number", none)) (st := st_Lnumber) rfl
  obtain ⟨d_Lshape, F_Lshape⟩ := c1.func 3 (p := ("_law_shape", none)) (st := st_Lshape) rfl
  obtain ⟨d_Lprogram, F_Lprogram⟩ := c1.func 4 (p := ("_law_program", none)) (st := st_Lprogram) rfl
  obtain ⟨d_Lright, F_Lright⟩ := c1.func 5 (p := ("_law_right", none)) (st := st_Lright) rfl
  obtain ⟨d_Lcaught, F_Lcaught⟩ := c1.func 6 (p := ("_law_caught", none)) (st := st_Lcaught) rfl
  obtain ⟨d_Lbad_names, F_Lbad_names⟩ := c1.func 7 (p := ("_law_bad_names", none)) (st := st_Lbad_names) rfl
  obtain ⟨d_Lbad_heads, F_Lbad_heads⟩ := c1.func 8 (p := ("_law_bad_heads", none)) (st := st_Lbad_heads) rfl
  obtain ⟨d_Lbad_bodies, F_Lbad_bodies⟩ := c1.func 9 (p := ("_law_bad_bodies", none)) (st := st_Lbad_bodies) rfl
  obtain ⟨d_Ltexts, F_Ltexts⟩ := c1.func 10 (p := ("_law_texts", none)) (st := st_Ltexts) rfl
  obtain ⟨d_Lspoilt, F_Lspoilt⟩ := c1.func 11 (p := ("_law_spoilt", none)) (st := st_Lspoilt) rfl
  obtain ⟨d_Llone, F_Llone⟩ := c1.func 12 (p := ("_law_lone", none)) (st := st_Llone) rfl
  obtain ⟨d_law, F_law⟩ := c1.func 13 (p := ("law", none)) (st := st_law) rfl
  let Z : Adr := {
      K := K
      mg := mg
      t_NUMBER := tk_NUMBER
      t_GET := tk_GET
      t_SET := tk_SET
      t_ALL := tk_ALL
      t_PICK := tk_PICK
      t_LOOP := tk_LOOP
      t_CALL := tk_CALL
      t_FAIL := tk_FAIL
      t_PUT := tk_PUT
      t_SIZE := tk_SIZE
      t_NEW := tk_NEW
      t_LETTERS := tk_LETTERS
      t_FIGURES := tk_FIGURES
      t_MOST_LETTERS := tk_MOST_LETTERS
      t_MOST_FIGURES := tk_MOST_FIGURES
      t_MOST_FUNCTIONS := tk_MOST_FUNCTIONS
      t_MOST_PARAMS := tk_MOST_PARAMS
      t_MOST_BOXES := tk_MOST_BOXES
      t_MOST_PARTS := tk_MOST_PARTS
      t_DEEPEST := tk_DEEPEST
      a_EARLY := He.ga K "EARLY"
      a_LATE := He.ga K "LATE"
      c_Reader := (He.ga K "Reader")
      f_NoText_init := He.fAd K ("NoText", some "__init__")
      d_NoText_init := d_NoText_init
      f_word_of := He.fAd K ("word_of", none)
      d_word_of := d_word_of
      f_kind_of := He.fAd K ("kind_of", none)
      d_kind_of := d_kind_of
      f_parts_of := He.fAd K ("parts_of", none)
      d_parts_of := d_parts_of
      f_is_of := He.fAd K ("is_of", none)
      d_is_of := d_is_of
      f_is_name := He.fAd K ("is_name", none)
      d_is_name := d_is_name
      f_is_number_of := He.fAd K ("is_number_of", none)
      d_is_number_of := d_is_number_of
      f_is_number_word := He.fAd K ("is_number_word", none)
      d_is_number_word := d_is_number_word
      f_words_of := He.fAd K ("words_of", none)
      d_words_of := d_words_of
      f_heads_inp := He.fAd K ("heads_in", none)
      d_heads_inp := d_heads_inp
      f_Reader_init := He.fAd K ("Reader", some "__init__")
      d_Reader_init := d_Reader_init
      f_Reader_is_left := He.fAd K ("Reader", some "is_left")
      d_Reader_is_left := d_Reader_is_left
      f_Reader_due := He.fAd K ("Reader", some "due")
      d_Reader_due := d_Reader_due
      f_Reader_fixed_word := He.fAd K ("Reader", some "fixed_word")
      d_Reader_fixed_word := d_Reader_fixed_word
      f_Reader_fresh_name := He.fAd K ("Reader", some "fresh_name")
      d_Reader_fresh_name := d_Reader_fresh_name
      f_Reader_boxes_to := He.fAd K ("Reader", some "boxes_to")
      d_Reader_boxes_to := d_Reader_boxes_to
      f_Reader_how_many := He.fAd K ("Reader", some "how_many")
      d_Reader_how_many := d_Reader_how_many
      f_Reader_node := He.fAd K ("Reader", some "node")
      d_Reader_node := d_Reader_node
      f_Reader_own_numbers := He.fAd K ("Reader", some "own_numbers")
      d_Reader_own_numbers := d_Reader_own_numbers
      f_is_node_word := He.fAd K ("is_node_word", none)
      d_is_node_word := d_is_node_word
      f_read_text := He.fAd K ("read_text", none)
      d_read_text := d_read_text
      f_Lpen := He.fAd K ("_law_pen", none)
      d_Lpen := d_Lpen
      f_Ldraw := He.fAd K ("_law_draw", none)
      d_Ldraw := d_Ldraw
      f_Lwords := He.fAd K ("_law_words", none)
      d_Lwords := d_Lwords
      f_Lname := He.fAd K ("_law_name", none)
      d_Lname := d_Lname
      f_Lheads := He.fAd K ("_law_heads", none)
      d_Lheads := d_Lheads
      f_Lnumber := He.fAd K ("_law_number", none)
      d_Lnumber := d_Lnumber
      f_Lshape := He.fAd K ("_law_shape", none)
      d_Lshape := d_Lshape
      f_Lprogram := He.fAd K ("_law_program", none)
      d_Lprogram := d_Lprogram
      f_Lright := He.fAd K ("_law_right", none)
      d_Lright := d_Lright
      f_Lcaught := He.fAd K ("_law_caught", none)
      d_Lcaught := d_Lcaught
      f_Lbad_names := He.fAd K ("_law_bad_names", none)
      d_Lbad_names := d_Lbad_names
      f_Lbad_heads := He.fAd K ("_law_bad_heads", none)
      d_Lbad_heads := d_Lbad_heads
      f_Lbad_bodies := He.fAd K ("_law_bad_bodies", none)
      d_Lbad_bodies := d_Lbad_bodies
      f_Ltexts := He.fAd K ("_law_texts", none)
      d_Ltexts := d_Ltexts
      f_Lspoilt := He.fAd K ("_law_spoilt", none)
      d_Lspoilt := d_Lspoilt
      f_Llone := He.fAd K ("_law_lone", none)
      d_Llone := d_Llone
      f_law := He.fAd K ("law", none)
      d_law := d_law
      c_ChainError := (He.ga K "ChainError")
      c_NoSheet := (He.ga K "NoSheet")
      c_NoText := (He.ga K "NoText")
      c_NoCode := (He.ga K "NoCode")
      c_NoRow := (He.ga K "NoRow")
      c_NoName := (He.ga K "NoName")
      cc_Reader_fixed_word := (He.cT K (("Reader", some "fixed_word") : He.Defn)).1
      p_Reader_fixed_word := (He.cT K (("Reader", some "fixed_word") : He.Defn)).2
      cc_Reader_fresh_name := (He.cT K (("Reader", some "fresh_name") : He.Defn)).1
      p_Reader_fresh_name := (He.cT K (("Reader", some "fresh_name") : He.Defn)).2
      cc_Reader_how_many := (He.cT K (("Reader", some "how_many") : He.Defn)).1
      p_Reader_how_many := (He.cT K (("Reader", some "how_many") : He.Defn)).2
      cc_Reader_node := (He.cT K (("Reader", some "node") : He.Defn)).1
      p_Reader_node := (He.cT K (("Reader", some "node") : He.Defn)).2
      cc_Reader_own_numbers := (He.cT K (("Reader", some "own_numbers") : He.Defn)).1
      p_Reader_own_numbers := (He.cT K (("Reader", some "own_numbers") : He.Defn)).2 }
  have T : Top Z := {
      g_NUMBER := i_NUMBER
      g_GET := i_GET
      g_SET := i_SET
      g_ALL := i_ALL
      g_PICK := i_PICK
      g_LOOP := i_LOOP
      g_CALL := i_CALL
      g_FAIL := i_FAIL
      g_PUT := i_PUT
      g_SIZE := i_SIZE
      g_NEW := i_NEW
      g_LETTERS := i_LETTERS
      g_FIGURES := i_FIGURES
      g_MOST_LETTERS := i_MOST_LETTERS
      g_MOST_FIGURES := i_MOST_FIGURES
      g_MOST_FUNCTIONS := i_MOST_FUNCTIONS
      g_MOST_PARAMS := i_MOST_PARAMS
      g_MOST_BOXES := i_MOST_BOXES
      g_MOST_PARTS := i_MOST_PARTS
      g_DEEPEST := i_DEEPEST
      g_EARLY := He.glo_ok KX G (c0.d.fact 20 (f := .glo "EARLY") rfl)
      s_EARLY := fun H => He.tupB_ok (c0.bool 0 rfl) H
      g_LATE := He.glo_ok KX G (c0.d.fact 21 (f := .glo "LATE") rfl)
      s_LATE := fun H => He.tupB_ok (c0.bool 1 rfl) H
      n_ValueError := He.free_ok KX G (c0.d.fact 22 (f := .free "ValueError") rfl)
      n_bool := He.free_ok KX G (c0.d.fact 23 (f := .free "bool") rfl)
      n_int := He.free_ok KX G (c0.d.fact 24 (f := .free "int") rfl)
      n_isinstance := He.free_ok KX G (c0.d.fact 25 (f := .free "isinstance") rfl)
      n_len := He.free_ok KX G (c0.d.fact 26 (f := .free "len") rfl)
      n_list := He.free_ok KX G (c0.d.fact 27 (f := .free "list") rfl)
      n_other := He.free_ok KX G (c0.d.fact 28 (f := .free "other") rfl)
      n_range := He.free_ok KX G (c0.d.fact 29 (f := .free "range") rfl)
      n_str := He.free_ok KX G (c0.d.fact 30 (f := .free "str") rfl)
      n_sum := He.free_ok KX G (c0.d.fact 31 (f := .free "sum") rfl)
      n_tuple := He.free_ok KX G (c0.d.fact 32 (f := .free "tuple") rfl)
      n_word := He.free_ok KX G (c0.d.fact 33 (f := .free "word") rfl)
      g_Reader := He.glo_ok KX G (c0.d.fact 34 (f := .glo "Reader") rfl)
      cl_Reader := He.cls_ok (c0.d.fact 35 (f := .cls "Reader") rfl)
      M_Reader := He.mkr_ok (c0.d.fact 36 (f := .mkr "Reader") rfl)
      mt_Reader_is_left := He.meth_ok (c0.d.fact 37 (f := .meth "Reader" "is_left") rfl)
      mt_Reader_due := He.meth_ok (c0.d.fact 38 (f := .meth "Reader" "due") rfl)
      mt_Reader_fixed_word := He.meth_ok (c0.d.fact 39 (f := .meth "Reader" "fixed_word") rfl)
      mt_Reader_fresh_name := He.meth_ok (c0.d.fact 40 (f := .meth "Reader" "fresh_name") rfl)
      mt_Reader_boxes_to := He.meth_ok (c0.d.fact 41 (f := .meth "Reader" "boxes_to") rfl)
      mt_Reader_how_many := He.meth_ok (c0.d.fact 42 (f := .meth "Reader" "how_many") rfl)
      mt_Reader_node := He.meth_ok (c0.d.fact 43 (f := .meth "Reader" "node") rfl)
      mt_Reader_own_numbers := He.meth_ok (c0.d.fact 44 (f := .meth "Reader" "own_numbers") rfl)
      na_Reader_words := He.noat_ok (c0.d.fact 45 (f := .noat "Reader" "words") rfl)
      na_Reader_at := He.noat_ok (c0.d.fact 46 (f := .noat "Reader" "at") rfl)
      na_Reader_heads := He.noat_ok (c0.d.fact 47 (f := .noat "Reader" "heads") rfl)
      F_NoText_init := F_NoText_init
      b_NoText_init := F_NoText_init.binds (ps := ["self", "at"]) fun _ _ _ _ _ _ us hl => match us, hl with | [_, _], _ => rfl
      F_word_of := F_word_of
      b_word_of := F_word_of.binds (ps := ["kind"]) fun _ _ _ _ _ _ us hl => match us, hl with | [_], _ => rfl
      m_word_of := He.glo_ok KX G (c0.d.fact 48 (f := .glo "word_of") rfl)
      F_kind_of := F_kind_of
      b_kind_of := F_kind_of.binds (ps := ["word"]) fun _ _ _ _ _ _ us hl => match us, hl with | [_], _ => rfl
      m_kind_of := He.glo_ok KX G (c0.d.fact 49 (f := .glo "kind_of") rfl)
      F_parts_of := F_parts_of
      b_parts_of := F_parts_of.binds (ps := ["kind"]) fun _ _ _ _ _ _ us hl => match us, hl with | [_], _ => rfl
      m_parts_of := He.glo_ok KX G (c0.d.fact 50 (f := .glo "parts_of") rfl)
      F_is_of := F_is_of
      b_is_of := F_is_of.binds (ps := ["word", "signs", "most"]) fun _ _ _ _ _ _ us hl => match us, hl with | [_, _, _], _ => rfl
      m_is_of := He.glo_ok KX G (c0.d.fact 51 (f := .glo "is_of") rfl)
      F_is_name := F_is_name
      b_is_name := F_is_name.binds (ps := ["word"]) fun _ _ _ _ _ _ us hl => match us, hl with | [_], _ => rfl
      m_is_name := He.glo_ok KX G (c0.d.fact 52 (f := .glo "is_name") rfl)
      F_is_number_of := F_is_number_of
      b_is_number_of := F_is_number_of.binds (ps := ["word", "most"]) fun _ _ _ _ _ _ us hl => match us, hl with | [_, _], _ => rfl
      m_is_number_of := He.glo_ok KX G (c0.d.fact 53 (f := .glo "is_number_of") rfl)
      F_is_number_word := F_is_number_word
      b_is_number_word := F_is_number_word.binds (ps := ["word"]) fun _ _ _ _ _ _ us hl => match us, hl with | [_], _ => rfl
      m_is_number_word := He.glo_ok KX G (c0.d.fact 54 (f := .glo "is_number_word") rfl)
      F_words_of := F_words_of
      b_words_of := F_words_of.binds (ps := ["text"]) fun _ _ _ _ _ _ us hl => match us, hl with | [_], _ => rfl
      m_words_of := He.glo_ok KX G (c0.d.fact 55 (f := .glo "words_of") rfl)
      F_heads_inp := F_heads_inp
      b_heads_inp := F_heads_inp.binds (ps := ["words"]) fun _ _ _ _ _ _ us hl => match us, hl with | [_], _ => rfl
      m_heads_inp := He.glo_ok KX G (c0.d.fact 56 (f := .glo "heads_in") rfl)
      F_Reader_init := F_Reader_init
      b_Reader_init := F_Reader_init.binds (ps := ["self", "words"]) fun _ _ _ _ _ _ us hl => match us, hl with | [_, _], _ => rfl
      F_Reader_is_left := F_Reader_is_left
      b_Reader_is_left := F_Reader_is_left.binds (ps := ["self"]) fun _ _ _ _ _ _ us hl => match us, hl with | [_], _ => rfl
      F_Reader_due := F_Reader_due
      b_Reader_due := F_Reader_due.binds (ps := ["self", "is_fit"]) fun _ _ _ _ _ _ us hl => match us, hl with | [_, _], _ => rfl
      F_Reader_fixed_word := F_Reader_fixed_word
      b_Reader_fixed_word := F_Reader_fixed_word.binds (ps := ["self", "word"]) fun _ _ _ _ _ _ us hl => match us, hl with | [_, _], _ => rfl
      F_Reader_fresh_name := F_Reader_fresh_name
      b_Reader_fresh_name := F_Reader_fresh_name.binds (ps := ["self", "taken"]) fun _ _ _ _ _ _ us hl => match us, hl with | [_, _], _ => rfl
      F_Reader_boxes_to := F_Reader_boxes_to
      b_Reader_boxes_to := F_Reader_boxes_to.binds (ps := ["self", "end", "boxes", "most"]) fun _ _ _ _ _ _ us hl => match us, hl with | [_, _, _, _], _ => rfl
      F_Reader_how_many := F_Reader_how_many
      b_Reader_how_many := F_Reader_how_many.binds (ps := ["self", "least"]) fun _ _ _ _ _ _ us hl => match us, hl with | [_, _], _ => rfl
      F_Reader_node := F_Reader_node
      b_Reader_node := F_Reader_node.binds (ps := ["self", "boxes", "deep"]) fun _ _ _ _ _ _ us hl => match us, hl with | [_, _, _], _ => rfl
      F_Reader_own_numbers := F_Reader_own_numbers
      b_Reader_own_numbers := F_Reader_own_numbers.binds (ps := ["self", "kind", "boxes"]) fun _ _ _ _ _ _ us hl => match us, hl with | [_, _, _], _ => rfl
      F_is_node_word := F_is_node_word
      b_is_node_word := F_is_node_word.binds (ps := ["word", "boxes"]) fun _ _ _ _ _ _ us hl => match us, hl with | [_, _], _ => rfl
      m_is_node_word := He.glo_ok KX G (c0.d.fact 57 (f := .glo "is_node_word") rfl)
      F_read_text := F_read_text
      b_read_text := F_read_text.binds (ps := ["text"]) fun _ _ _ _ _ _ us hl => match us, hl with | [_], _ => rfl
      m_read_text := He.glo_ok KX G (c0.d.fact 58 (f := .glo "read_text") rfl)
      F_Lpen := F_Lpen
      b_Lpen := F_Lpen.binds (ps := ["_law_script", "_law_k"]) fun _ _ _ _ _ _ us hl => match us, hl with | [_, _], _ => rfl
      m_Lpen := He.glo_ok KX G (c0.d.fact 59 (f := .glo "_law_pen") rfl)
      F_Ldraw := F_Ldraw
      b_Ldraw := F_Ldraw.binds (ps := ["_law_pen_here", "_law_many"]) fun _ _ _ _ _ _ us hl => match us, hl with | [_, _], _ => rfl
      m_Ldraw := He.glo_ok KX G (c1.d.fact 0 (f := .glo "_law_draw") rfl)
      F_Lwords := F_Lwords
      b_Lwords := F_Lwords.binds (ps := []) fun _ _ _ _ _ _ us hl => match us, hl with | [], _ => rfl
      m_Lwords := He.glo_ok KX G (c1.d.fact 1 (f := .glo "_law_words") rfl)
      F_Lname := F_Lname
      b_Lname := F_Lname.binds (ps := ["_law_pen_here", "_law_taken"]) fun _ _ _ _ _ _ us hl => match us, hl with | [_, _], _ => rfl
      m_Lname := He.glo_ok KX G (c1.d.fact 2 (f := .glo "_law_name") rfl)
      F_Lheads := F_Lheads
      b_Lheads := F_Lheads.binds (ps := ["_law_pen_here", "_law_most"]) fun _ _ _ _ _ _ us hl => match us, hl with | [_, _], _ => rfl
      m_Lheads := He.glo_ok KX G (c1.d.fact 3 (f := .glo "_law_heads") rfl)
      F_Lnumber := F_Lnumber
      b_Lnumber := F_Lnumber.binds (ps := ["_law_pen_here", "_law_is_far"]) fun _ _ _ _ _ _ us hl => match us, hl with | [_, _], _ => rfl
      m_Lnumber := He.glo_ok KX G (c1.d.fact 4 (f := .glo "_law_number") rfl)
      F_Lshape := F_Lshape
      b_Lshape := F_Lshape.binds (ps := ["_law_pen_here", "_law_heads_here", "_law_boxes", "_law_left", "_law_deep"]) fun _ _ _ _ _ _ us hl => match us, hl with | [_, _, _, _, _], _ => rfl
      m_Lshape := He.glo_ok KX G (c1.d.fact 5 (f := .glo "_law_shape") rfl)
      F_Lprogram := F_Lprogram
      b_Lprogram := F_Lprogram.binds (ps := ["_law_pen_here", "_law_most", "_law_room"]) fun _ _ _ _ _ _ us hl => match us, hl with | [_, _, _], _ => rfl
      m_Lprogram := He.glo_ok KX G (c1.d.fact 6 (f := .glo "_law_program") rfl)
      F_Lright := F_Lright
      b_Lright := F_Lright.binds (ps := ["_law_e", "_law_at"]) fun _ _ _ _ _ _ us hl => match us, hl with | [_, _], _ => rfl
      m_Lright := He.glo_ok KX G (c1.d.fact 7 (f := .glo "_law_right") rfl)
      F_Lcaught := F_Lcaught
      b_Lcaught := F_Lcaught.binds (ps := ["_law_text"]) fun _ _ _ _ _ _ us hl => match us, hl with | [_], _ => rfl
      m_Lcaught := He.glo_ok KX G (c1.d.fact 8 (f := .glo "_law_caught") rfl)
      F_Lbad_names := F_Lbad_names
      b_Lbad_names := F_Lbad_names.binds (ps := []) fun _ _ _ _ _ _ us hl => match us, hl with | [], _ => rfl
      m_Lbad_names := He.glo_ok KX G (c1.d.fact 9 (f := .glo "_law_bad_names") rfl)
      F_Lbad_heads := F_Lbad_heads
      b_Lbad_heads := F_Lbad_heads.binds (ps := ["_law_pen_here", "_law_names", "_law_number_here"]) fun _ _ _ _ _ _ us hl => match us, hl with | [_, _, _], _ => rfl
      m_Lbad_heads := He.glo_ok KX G (c1.d.fact 10 (f := .glo "_law_bad_heads") rfl)
      F_Lbad_bodies := F_Lbad_bodies
      b_Lbad_bodies := F_Lbad_bodies.binds (ps := ["_law_pen_here", "_law_names"]) fun _ _ _ _ _ _ us hl => match us, hl with | [_, _], _ => rfl
      m_Lbad_bodies := He.glo_ok KX G (c1.d.fact 11 (f := .glo "_law_bad_bodies") rfl)
      F_Ltexts := F_Ltexts
      b_Ltexts := F_Ltexts.binds (ps := []) fun _ _ _ _ _ _ us hl => match us, hl with | [], _ => rfl
      m_Ltexts := He.glo_ok KX G (c1.d.fact 12 (f := .glo "_law_texts") rfl)
      F_Lspoilt := F_Lspoilt
      b_Lspoilt := F_Lspoilt.binds (ps := ["_law_pen_here", "_law_names", "_law_lines"]) fun _ _ _ _ _ _ us hl => match us, hl with | [_, _, _], _ => rfl
      m_Lspoilt := He.glo_ok KX G (c1.d.fact 13 (f := .glo "_law_spoilt") rfl)
      F_Llone := F_Llone
      b_Llone := F_Llone.binds (ps := ["_law_names", "_law_lines"]) fun _ _ _ _ _ _ us hl => match us, hl with | [_, _], _ => rfl
      m_Llone := He.glo_ok KX G (c1.d.fact 14 (f := .glo "_law_lone") rfl)
      F_law := F_law
      b_law := F_law.binds (ps := ["_law_script"]) fun _ _ _ _ _ _ us hl => match us, hl with | [_], _ => rfl
      m_law := He.glo_ok KX G (c1.d.fact 15 (f := .glo "law") rfl)
      g_ChainError := He.glo_ok KX G (c1.d.fact 16 (f := .glo "ChainError") rfl)
      ri_ChainError := (c0.bool 2 rfl)
      rs_ChainError := (c0.dec 3 rfl)
      rv_ChainError := _root_.Z.veiB_ok (c0.bool 4 rfl)
      g_NoSheet := He.glo_ok KX G (c1.d.fact 17 (f := .glo "NoSheet") rfl)
      g_NoText := He.glo_ok KX G (c1.d.fact 18 (f := .glo "NoText") rfl)
      na_NoText_at := (c0.dec 5 rfl)
      ox_NoText := ⟨_root_.Z.oexB_ok (c0.bool 6 rfl), (c0.dec 7 rfl), (c0.dec 8 rfl), (c0.dec 9 rfl), (c0.bool 10 rfl)⟩
      xf_NoText := xfB_ok (c0.bool 11 rfl)
      oi_NoText := (c0.dec 12 rfl)
      ot_NoText := (c0.dec 13 rfl)
      g_NoCode := He.glo_ok KX G (c1.d.fact 19 (f := .glo "NoCode") rfl)
      g_NoRow := He.glo_ok KX G (c1.d.fact 20 (f := .glo "NoRow") rfl)
      g_NoName := He.glo_ok KX G (c1.d.fact 21 (f := .glo "NoName") rfl)
      ex_NoText_ChainError := He.exm_ok (c1.d.fact 22 (f := .exm "NoText" "ChainError" true) rfl)
      kx_NoText := ⟨(c1.dec 0 rfl), (c1.dec 1 rfl), (c0.dec 8 rfl), (c1.bool 2 rfl), (c1.dec 3 rfl), (c1.dec 4 rfl), (c1.dec 5 rfl), (c1.dec 6 rfl)⟩
      kv_NoText := (c1.dec 7 rfl)
      ki_NoText_NoCode := (c1.dec 8 rfl)
      ki_NoText_NoName := (c1.dec 9 rfl)
      ki_NoText_NoRow := (c1.dec 10 rfl)
      ki_NoText_NoSheet := (c1.dec 11 rfl)
      ki_NoText_NoText := (c1.dec 12 rfl)
      cd_Reader_fixed_word := _root_.Z.code_of F_Reader_fixed_word
      tq_Reader_fixed_word := by
        subst hiq
        show tqf K (He.cT K (("Reader", some "fixed_word") : He.Defn)).2 = _
        unfold tqf
        rw [if_pos rfl]
      cd_Reader_fresh_name := _root_.Z.code_of F_Reader_fresh_name
      tq_Reader_fresh_name := by
        subst hiq
        show tqf K (He.cT K (("Reader", some "fresh_name") : He.Defn)).2 = _
        unfold tqf
        rw [if_neg ((c1.dec 13 rfl)), if_pos rfl]
      cd_Reader_how_many := _root_.Z.code_of F_Reader_how_many
      tq_Reader_how_many := by
        subst hiq
        show tqf K (He.cT K (("Reader", some "how_many") : He.Defn)).2 = _
        unfold tqf
        rw [if_neg ((c2.dec 0 rfl)), if_neg ((c2.dec 1 rfl)), if_pos rfl]
      cd_Reader_node := _root_.Z.code_of F_Reader_node
      tq_Reader_node := by
        subst hiq
        show tqf K (He.cT K (("Reader", some "node") : He.Defn)).2 = _
        unfold tqf
        rw [if_neg ((c2.dec 2 rfl)), if_neg ((c2.dec 3 rfl)), if_neg ((c2.dec 4 rfl)), if_pos rfl]
      cd_Reader_own_numbers := _root_.Z.code_of F_Reader_own_numbers
      tq_Reader_own_numbers := by
        subst hiq
        show tqf K (He.cT K (("Reader", some "own_numbers") : He.Defn)).2 = _
        unfold tqf
        rw [if_neg ((c2.dec 5 rfl)), if_neg ((c2.dec 6 rfl)), if_neg ((c2.dec 7 rfl)), if_neg ((c2.dec 8 rfl)), if_pos rfl] }
  have e := hlaw0.symm.trans T.m_law
  cases e
  obtain ⟨e1, e2⟩ : (∃ bb : Binds K d_law ["_law_script"] [], True) ∧ True := ⟨⟨T.b_law, trivial⟩, trivial⟩
  refine ⟨d_law, fun s v => ?_, fun base _ _ htb => ⟨Z, rfl, fun H z => ⟨z _ (List.mem_of_getElem? (i := 0) rfl), z _ (List.mem_of_getElem? (i := 1) rfl), z _ (List.mem_of_getElem? (i := 2) rfl), z _ (List.mem_of_getElem? (i := 3) rfl), z _ (List.mem_of_getElem? (i := 4) rfl)⟩, ?_⟩⟩
  · obtain ⟨oc, od, kV, doc, pm, an, cdv, ct, osl, z1, z2, z3⟩ := F_law.ex
    subst z1
    exact .of_eq rfl
  have TB : TBs base Z := ⟨htb _ (List.mem_of_getElem? (i := 0) rfl), htb _ (List.mem_of_getElem? (i := 1) rfl), htb _ (List.mem_of_getElem? (i := 2) rfl), htb _ (List.mem_of_getElem? (i := 3) rfl), htb _ (List.mem_of_getElem? (i := 4) rfl)⟩
  have G_Lpen := ok_Lpen (P := P) (w := w) (base := base) T TB 
  have G_Ldraw := ok_Ldraw (P := P) (w := w) (base := base) T TB 
  have G_Lwords := ok_Lwords (P := P) (w := w) (base := base) T TB 
  have G_Lname := ok_Lname (P := P) (w := w) (base := base) T TB G_Ldraw G_Lwords
  have G_Lheads := ok_Lheads (P := P) (w := w) (base := base) T TB G_Ldraw G_Lname
  have G_Lnumber := ok_Lnumber (P := P) (w := w) (base := base) T TB G_Ldraw
  have GG := grp_Lshape (P := P) (w := w) (base := base) T TB G_Ldraw G_Lnumber G_Lwords 12
  have G_Lshape := GG
  have G_Lprogram := ok_Lprogram (P := P) (w := w) (base := base) T TB G_Lheads G_Lshape
  have G_Llone := ok_Llone (P := P) (w := w) (base := base) T TB 
  have G_heads_inp := ok_heads_inp (P := P) (w := w) (base := base) T TB 
  have G_Reader_init := ok_Reader_init (P := P) (w := w) (base := base) T TB G_heads_inp
  have G_NoText_init := ok_NoText_init (P := P) (w := w) (base := base) T TB 
  have G_words_of := ok_words_of (P := P) (w := w) (base := base) T TB G_NoText_init
  have G_Reader_is_left := ok_Reader_is_left (P := P) (w := w) (base := base) T TB 
  have G_Reader_fixed_word := ok_Reader_fixed_word (P := P) (w := w) (base := base) T TB G_Reader_is_left G_NoText_init
  have G_word_of := ok_word_of (P := P) (w := w) (base := base) T TB 
  have G_kind_of := ok_kind_of (P := P) (w := w) (base := base) T TB G_word_of
  have G_is_of := ok_is_of (P := P) (w := w) (base := base) T TB 
  have G_is_name := ok_is_name (P := P) (w := w) (base := base) T TB G_kind_of G_is_of
  have G_Reader_fresh_name := ok_Reader_fresh_name (P := P) (w := w) (base := base) T TB G_Reader_is_left G_NoText_init G_is_name
  have G_Reader_boxes_to := ok_Reader_boxes_to (P := P) (w := w) (base := base) T TB G_NoText_init G_Reader_fresh_name G_Reader_fixed_word
  have G_is_number_of := ok_is_number_of (P := P) (w := w) (base := base) T TB G_is_of
  have G_is_number_word := ok_is_number_word (P := P) (w := w) (base := base) T TB G_is_number_of
  have G_is_node_word := ok_is_node_word (P := P) (w := w) (base := base) T TB G_is_number_word G_kind_of
  have G_Reader_how_many := ok_Reader_how_many (P := P) (w := w) (base := base) T TB G_Reader_is_left G_NoText_init G_is_number_word
  have G_parts_of := ok_parts_of (P := P) (w := w) (base := base) T TB 
  have G_Reader_own_numbers := ok_Reader_own_numbers (P := P) (w := w) (base := base) T TB G_Reader_is_left G_NoText_init G_Reader_how_many G_is_name G_parts_of
  have GG := grp_Reader_node (P := P) (w := w) (base := base) T TB G_NoText_init G_Reader_is_left G_is_node_word G_is_number_word G_kind_of G_Reader_own_numbers 12
  have G_Reader_node := GG
  have G_read_text := ok_read_text (P := P) (w := w) (base := base) T TB G_Reader_init G_words_of G_Reader_is_left G_NoText_init G_Reader_fixed_word G_Reader_fresh_name G_Reader_boxes_to G_Reader_node
  have G_Lcaught := ok_Lcaught (P := P) (w := w) (base := base) T TB G_read_text
  have G_Lbad_names := ok_Lbad_names (P := P) (w := w) (base := base) T TB 
  have G_Lbad_heads := ok_Lbad_heads (P := P) (w := w) (base := base) T TB G_Lbad_names G_Ldraw
  have G_Lbad_bodies := ok_Lbad_bodies (P := P) (w := w) (base := base) T TB G_Ldraw
  have G_Lspoilt := ok_Lspoilt (P := P) (w := w) (base := base) T TB G_Ldraw G_Lbad_heads G_Lbad_bodies
  have G_Lright := ok_Lright (P := P) (w := w) (base := base) T TB 
  have G_Ltexts := ok_Ltexts (P := P) (w := w) (base := base) T TB 
  have G_law := ok_law (P := P) (w := w) (base := base) T TB G_Lpen G_Lprogram G_Llone G_Lcaught G_Lspoilt G_Lright G_Ldraw G_Ltexts
  exact G_law
end My
namespace My
open PySem Z
open L2 hiding rLen Same Same.refl Same.trans Same.free Same.seq Same.made

theorem all_mk : AllT := by
  intro w mg f h Y G hl
  obtain ⟨K, KX, cc⟩ := Y
  have c0 : _root_.Z.SaysM hfa0 hfn0 htf hex0 htx hdc w h K := cc hc0 (List.mem_of_getElem? (i := 0) rfl)
  letI iq : TQ := ⟨tqf K⟩
  obtain ⟨fd, hb, hF⟩ := hfacts (P := (PySem.Challenge.rw_ownchain_k11_words_that_cannot_stand).prog) (w := w) KX G hl cc rfl
  refine ⟨K, KX, fd, csK K, sp_goal K, fun p hp => ?_, fun p hp => ?_, fun p hp => ?_, hb, fun H a ns hn _ ht hs => ⟨a, ns, rfl, ht, hs, hn, fun v H' e => e⟩, fun base b1 b2 b3 => ?_⟩
  · obtain ⟨q, hq, rfl⟩ := List.mem_map.mp hp
    exact c0.empty q hq
  · obtain ⟨q, hq, rfl⟩ := List.mem_map.mp hp
    exact c0.out q hq
  · obtain ⟨q, hq, rfl⟩ := List.mem_map.mp hp
    exact PySem.W.codeHd_of_K KX (c0.hd q hq)
  · obtain ⟨Z, hZ, hT, gg⟩ := hF base b1 b2 b3
    exact goal_fn Z hZ hT gg
end My
theorem PySem.Challenge.cw_ownchain_k11_words_that_cannot_stand_holds : PySem.Challenge.rw_ownchain_k11_words_that_cannot_stand.Holds := by
  exact My.head_ownchain_k11_words_that_cannot_stand My.all_mk
