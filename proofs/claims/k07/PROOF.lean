import PyProof.Rows.All
import Wide.All
import OpenK.AllK
import Wide.FinOn
import HandS.ForMost
import HandS.ForExc
import HandS.IsInst
import HandS.Wide
import HandS.TryOnly
import HandS.Codes
import HandS.Style
import HandS.ExcInit
import HandS.ExcField
import HandS.TupAny
import HandS.Conv
import HandS.Lambda
import KE.KStateDown
import HandS.Head0
import HandS.Head1
import HandS.Head2
import HandS.HeadEnd
import HandS.HeadHook1
import HandS.HeadHook2
import HandS.HeadHook3
import HandS.HeadHook4
import HandS.HeadWalk
import PySem.Challenge.RW_ownchain_k07_whole_parts_exchanged
set_option Elab.async false
set_option linter.all false
set_option maxRecDepth 100000
set_option maxHeartbeats 8000000
set_option Elab.async false
set_option linter.all false
set_option maxRecDepth 100000
set_option maxHeartbeats 4000000
/-! ### the head: what the top leaves, looked at by one hook -/
namespace Z
open PySem PySem.Spec PyProof.Rows L2
def strOf : Expr → Str
  | .Constant (.str s) _ _ => s
  | _ => ""
/-- the texts of a written tuple -/
def strsOf : Stmt → List Str
  | .Assign _ (.Tuple es _ _) _ => es.map strOf
  | _ => []
/-- addresses that are not marked yet -/
def newA : List Addr → Nat → List Addr → (Nat → List Addr → List Addr) → List Addr
  | [], m, acc, k => k m acc
  | a :: r, m, acc, k => match Nat.beq (Nat.land (Nat.shiftRight m a) 1) 0 with
    | true => newA r (Nat.lor m (Nat.shiftLeft 1 a)) (a :: acc) k
    | false => newA r m acc k
def refsOf (g : Addr → Option Obj) (a : Addr) : List Addr := match g a with
  | some o => He.refsD o
  | none => []
/-- what is reached in so many steps, each address once -/
def rch (g : Addr → Option Obj) : Nat → Nat → List Addr → List Addr → List Addr
  | 0, _, fr, acc => acc ++ fr
  | n + 1, m, fr, acc => newA (fr.flatMap (refsOf g)) m [] fun m' fr' => rch g n m' fr' (acc ++ fr)
/-- the part of the heap that is told: what the module's names reach, and the statics -/
def kOf (n : Nat) (g : Addr → Option Obj) : PySem.W.Frag := He.frT g (cStatics :: rch g n (Nat.shiftLeft 1 mainGlobals) [mainGlobals] [])
/-- the texts of a tuple, looked at as they are: no sign is gone through -/
def txOf : Value → Option Str
  | .str s _ => some s
  | _ => none
theorem relAll_str (K : PySem.W.Frag) : ∀ (ss : List Str) (vs : List Value), vs.map txOf = ss.map some → He.relAll ((ss.map He.Dv.str).map (He.Dv.v K)) vs = true
  | [], [], _ => rfl
  | [], v :: r, h => by cases h
  | s :: r, [], h => by cases h
  | s :: r, v :: vs, h => by
    simp only [List.map_cons, List.cons.injEq] at h
    have ih := relAll_str K r vs h.2
    cases v with
    | str z t =>
      have e : z = s := Option.some.inj h.1
      subst e
      simp only [List.map_cons, He.Dv.v]
      refine Bool.and_eq_true_iff.mpr ⟨?_, ih⟩
      show He.relB (.str z) (.str z t) = true
      simp [He.relB]
    | _ => exact absurd h.1 (by unfold txOf; simp)
def tupV (K : PySem.W.Frag) (x : Str) : Option (List (Option Str)) := match List.lookup (He.ga K x) K with
  | some ⟨.type c, _, .seq its _, _⟩ => if c = "tuple" ∧ its.size ≤ sizeLine then some (its.toList.map txOf) else none
  | _ => none
theorem tupV_ok {K : PySem.W.Frag} {x : Str} {ss : List Str} (h : tupV K x = some (ss.map some)) : He.tupB K x (ss.map He.Dv.str) = true := by
  unfold tupV at h
  unfold He.tupB
  split at h
  · rename_i c _ its _ _ e
    split at h
    · rename_i hc
      rw [e]
      have hi := Option.some.inj h
      simp only [relAll_str K ss _ hi, hc.1, hc.2, decide_true, Bool.and_true]
    · cases h
  · cases h
def obsM (n : Nat) (fa : List He.Fa) (fn : List He.DefD) (tf : List He.Defn) (ex : PySem.W.Frag → List Bool) (g : Addr → Option Obj) : He.AlD × Bool := (He.obsD fa fn (kOf n g), (ex (kOf n g)).all id && He.tabsB g tf (kOf n g))
structure SaysM (fa : List He.Fa) (fn : List He.DefD) (tf : List He.Defn) (ex : PySem.W.Frag → List Bool) (tx dc : List (Str × List Str)) (w : World) (h : Heap) (K : PySem.W.Frag) : Prop where
  d : He.SaysD fa fn K
  more : (ex K).all id = true
  hd : ∀ p ∈ tf, PySem.W.codeHdIn K (He.cT K p).1 (He.cT K p).2 = true
  out : ∀ p ∈ tf, K.lookup (He.cT K p).2 = none
  empty : ∀ p ∈ tf, h.get? (He.cT K p).2 = some { cls := .none, data := .fields #[] }
  txs : (tx.map fun p => tupV K p.1) = tx.map fun p => some (p.2.map some)
  dcs : (dc.map fun p => He.dicW K (He.ga K p.1)) = dc.map fun p => some (He.keysIn w.params p.2)
theorem saysM_of {n : Nat} {fa : List He.Fa} {fn : List He.DefD} {tf : List He.Defn} {ex : PySem.W.Frag → List Bool} {tx dc : List (Str × List Str)} {w : World} {h : Heap} (e : obsM n fa fn tf ex h.get? = (He.valD fn, true)) (et : (tx.map fun p => tupV (kOf n h.get?) p.1) = tx.map fun p => some (p.2.map some)) (ed : (dc.map fun p => He.dicW (kOf n h.get?) (He.ga (kOf n h.get?) p.1)) = dc.map fun p => some (He.keysIn w.params p.2)) : SaysM fa fn tf ex tx dc w h (kOf n h.get?) := by
  have a : He.obsD fa fn (kOf n h.get?) = He.valD fn := congrArg Prod.fst e
  have b : ((ex (kOf n h.get?)).all id && He.tabsB h.get? tf (kOf n h.get?)) = true := congrArg Prod.snd e
  obtain ⟨b1, b2⟩ := Bool.and_eq_true_iff.mp b
  have each : ∀ p ∈ tf, PySem.W.codeHdIn (kOf n h.get?) (He.cT (kOf n h.get?) p).1 (He.cT (kOf n h.get?) p).2 = true ∧ ∃ o, h.get? (He.cT (kOf n h.get?) p).2 = some o ∧ He.emptyTab o = true := by
    intro p hp
    obtain ⟨c1, c2⟩ := Bool.and_eq_true_iff.mp (List.all_eq_true.mp b2 p hp)
    cases q : h.get? (He.cT (kOf n h.get?) p).2 with
    | none => rw [q] at c2; exact absurd c2 (by simp)
    | some o => rw [q] at c2; exact ⟨c1, o, rfl, c2⟩
  exact ⟨a, b1, fun p hp => (each p hp).1, fun p hp => (each p hp).2.elim fun o z => He.frT_none z.1 z.2, fun p hp => (each p hp).2.elim fun o z => by rw [z.1, He.emptyTab_eq z.2], et, ed⟩
/-- the facts, in parts that are looked at one by one -/
structure Chk where
  fa : List He.Fa
  fn : List He.DefD
  tf : List He.Defn
  ex : PySem.W.Frag → List Bool
  tx : List (Str × List Str)
  dc : List (Str × List Str)
abbrev ObsT : Type := (He.AlD × Bool) × List (Option (List (Option Str))) × List (Option (List (Option (Str × Int))))
def Chk.obs (c : Chk) (n : Nat) (g : Addr → Option Obj) : ObsT := (obsM n c.fa c.fn c.tf c.ex g, c.tx.map fun p => tupV (kOf n g) p.1, c.dc.map fun p => He.dicW (kOf n g) (He.ga (kOf n g) p.1))
def Chk.val (c : Chk) (w : World) : ObsT := ((He.valD c.fn, true), c.tx.map fun p => some (p.2.map some), c.dc.map fun p => some (He.keysIn w.params p.2))
def hookM (n : Nat) (cs : List Chk) : PySem.W.Hook where
  α := List ObsT
  obs := fun s => cs.map fun c => c.obs n s.heap.get?
  val := fun w => cs.map fun c => c.val w
  says := fun w h => ∃ K : PySem.W.Frag, K.In h ∧ ∀ c ∈ cs, SaysM c.fa c.fn c.tf c.ex c.tx c.dc w h K
  of := fun _ s e => ⟨kOf n s.heap.get?, He.frT_in, fun c hc => by
    obtain ⟨i, hi, rfl⟩ := List.getElem_of_mem hc
    have z := congrArg (fun l : List ObsT => l[i]?) e
    simp only [List.getElem?_map, List.getElem?_eq_getElem hi, Option.map_some] at z
    have z := Option.some.inj z
    exact saysM_of (congrArg Prod.fst z) (congrArg (fun t : ObsT => t.2.1) z) (congrArg (fun t : ObsT => t.2.2) z)⟩
  keeps := fun _ _ _ ⟨K, hK, c⟩ k => ⟨K, PySem.W.Frag.In.keeps hK k, fun x hx => ⟨(c x hx).d, (c x hx).more, (c x hx).hd, (c x hx).out, fun p hp => k _ _ ((c x hx).empty p hp), (c x hx).txs, (c x hx).dcs⟩⟩
theorem obsM_eq {n : Nat} {cs : List Chk} {g : Addr → Option Obj} {s : Shared} (h : ∀ a, g a = s.heap.get? a) : (cs.map fun c => c.obs n g) = (hookM n cs).obs s := by
  have : g = s.heap.get? := funext h
  subst this
  rfl
theorem runs_of {σ B C γ : Type} {E : Option σ} {a : σ → Bool} {b : σ → B} {good : B} {cs : List C} {o : C → σ → γ} {v : C → γ} (h0 : E.map (fun s => (a s, b s)) = some (true, good)) (h : ∀ c ∈ cs, E.map (o c) = some (v c)) : E.map (fun s => (a s, b s, cs.map fun c => o c s)) = some (true, good, cs.map v) := by
  cases E with
  | none => cases h0
  | some s =>
    have e0 : (a s, b s) = (true, good) := Option.some.inj h0
    have e1 : a s = true := congrArg Prod.fst e0
    have e2 : b s = good := congrArg Prod.snd e0
    have e3 : (cs.map fun c => o c s) = cs.map v := List.map_congr_left fun c hc => Option.some.inj (h c hc)
    show some (a s, b s, cs.map fun c => o c s) = _
    rw [e1, e2, e3]
section
variable {fa : List He.Fa} {fn : List He.DefD} {tf : List He.Defn} {ex : PySem.W.Frag → List Bool} {tx dc : List (Str × List Str)} {w : World} {h : Heap} {K : PySem.W.Frag}
theorem SaysM.bool (c : SaysM fa fn tf ex tx dc w h K) (i : Nat) {b : Bool} (e : (ex K)[i]? = some b) : b = true := List.all_eq_true.mp c.more b (List.mem_of_getElem? e)
theorem SaysM.tup (c : SaysM fa fn tf ex tx dc w h K) (i : Nat) {x : Str} {ss : List Str} (e : tx[i]? = some (x, ss)) : He.tupB K x (ss.map He.Dv.str) = true := by
  have z := congrArg (fun l : List (Option (List (Option Str))) => l[i]?) c.txs
  simp only [List.getElem?_map, e, Option.map_some] at z
  exact tupV_ok (Option.some.inj z)
theorem SaysM.dct (c : SaysM fa fn tf ex tx dc w h K) (i : Nat) {x : Str} {ks : List Str} (e : dc[i]? = some (x, ks)) : He.dicW K (He.ga K x) = some (He.keysIn w.params ks) := by
  have z := congrArg (fun l : List (Option (List (Option (Str × Int)))) => l[i]?) c.dcs
  simp only [List.getElem?_map, e, Option.map_some] at z
  exact Option.some.inj z
theorem SaysM.dec (c : SaysM fa fn tf ex tx dc w h K) (i : Nat) {P : Prop} [Decidable P] (e : (ex K)[i]? = some (decide P)) : P := of_decide_eq_true (c.bool i e)
theorem SaysM.func (c : SaysM fa fn tf ex tx dc w h K) (i : Nat) {p : Str × Option Str} {name qual : Str} {st : Stmt} (e : fn[i]? = some ⟨p, name, qual, defArgs st, defBody st, defScope st, [], []⟩) : ∃ fd, Fun K name qual st (He.fAd K p) fd := by
  obtain ⟨fd, ⟨oc, od, dV, kV, doc, pm, an, cdv, ct, osl, e1, e2, e3, e4, _⟩, kp⟩ := c.d.def_ i e
  rcases e4 with ⟨_, z⟩ | ⟨z, _⟩
  · subst z
    exact ⟨fd, ⟨oc, od, kV, doc, pm, an, cdv, ct, osl, e1, e2, e3⟩, kp⟩
  · exact absurd rfl z
end
/-- an own exception with an __init__ of its own: its class object -/
def oexB (K : PySem.W.Frag) (C : Addr) : Bool := match K.lookup C with
  | some ⟨.type t, _, .cls cd, sl⟩ => t == "type" && (match cd.mro with
    | .ref D :: bm => D == C && (!cd.hasDel && (cd.hasDict && PySem.HandSPX.refsVE bm))
    | _ => false) && (match sl.toList with
    | [_, _, _, _, some (.builtin n), _] => n == "ValueError.__new__"
    | _ => false)
  | _ => false
theorem oexB_ok {K : PySem.W.Frag} {C : Addr} (h : oexB K C = true) : ∃ nm q N bs bm sn sub ab col dd k0 k1 k2 k3 k5, K.lookup C = some (excClassObj nm q C N bs bm true sn sub ab col dd k0 k1 k2 k3 k5 "ValueError.__new__") ∧ PySem.HandSPX.refsVE bm = true := by
  unfold oexB at h
  cases e : K.lookup C with
  | none => rw [e] at h; cases h
  | some o =>
    rw [e] at h
    obtain ⟨oc, od, dt, ⟨sl⟩⟩ := o
    cases oc with
    | type t =>
      cases dt with
      | cls cd =>
        obtain ⟨h1, h2⟩ := Bool.and_eq_true_iff.mp h
        obtain ⟨h3, h4⟩ := Bool.and_eq_true_iff.mp h1
        obtain rfl : t = "type" := beq_iff_eq.mp h3
        obtain ⟨nm, bs, mro, N, q, hd, sn, sub, ab, col, del⟩ := cd
        dsimp only at h2 h4
        match mro, h4 with
        | .ref D :: bm, h4 =>
          obtain ⟨h5, h6⟩ := Bool.and_eq_true_iff.mp h4
          obtain ⟨h7, h8⟩ := Bool.and_eq_true_iff.mp h6
          obtain ⟨h9, h10⟩ := Bool.and_eq_true_iff.mp h8
          obtain rfl : D = C := beq_iff_eq.mp h5
          obtain rfl : hd = true := h9
          obtain rfl : del = false := by simpa using h7
          match sl, h2 with
          | [k0, k1, k2, k3, some (.builtin n), k5], h2 =>
            obtain rfl : n = "ValueError.__new__" := beq_iff_eq.mp h2
            exact ⟨nm, q, N, bs, bm, sn, sub, ab, col, od, k0, k1, k2, k3, k5, rfl, h10⟩
      | _ => cases h
    | _ => cases h
def veiB (K : PySem.W.Frag) (C : Addr) : Bool := match PySem.W.findCls K (.ref C) (.type "type") "__init__" with
  | some (.val (.builtin n)) => n == "ValueError.__init__"
  | _ => false
theorem veiB_ok {K : PySem.W.Frag} {C : Addr} (h : veiB K C = true) : PySem.W.findCls K (.ref C) (.type "type") "__init__" = some (.val (.builtin "ValueError.__init__")) := by
  unfold veiB at h
  split at h
  · rename_i n e
    rw [e, beq_iff_eq.mp h]
  · cases h
/-- the walk of a law, by what the hook says -/
theorem walkM {l : PySem.W.OpenLaw} {n k : Nat} {q : Program} {loose : List Str} {XP : (Str → Option Value) → Heap → Prop} {YP : World → Heap → Prop} {d : DefRec} {CX : World → CXT} {x : Str} (hn : l.most = some n) (hle : n ≤ sizeLine) (hdf : d.params.defaults = []) (hr : Room k callerA)
    (F : ∀ (w : World) (mg : Str → Option Value) (fa : Addr) (h : Heap), YP w h → h.Ns mainGlobals mg → mg d.name = some (.ref fa) → ∃ (K : PySem.W.Frag) (fd : FuncData) (sp : Sp), K.In h ∧ (∀ (s : Shared) (u : Value), BindsTo s fd ⟨[u], []⟩ [(x, u)]) ∧
      (∀ (H : Hp) (a : Addr) (ns : List Int), ns.length ≤ n → Only H → SqL K H a (ns.map V.int) → sp [.ref a] H (fun v _ => v = .bl true) fun _ _ _ => False) ∧ ∀ base : Heap, K.In base → base.Ns mainGlobals mg → FnOk l.prog w K mg base (CX w) k fa fd [x] sp)
    (hCX : ∀ (w : World) (H : Hp) (s : Shared) (e : Value) (s' : Shared), CX w [] H s (fun _ _ _ => False) e s' → False) : PySem.W.WalkO q loose XP YP l.row.toRowW d [] (fun f vs => PySem.call f vs) :=
  Att.attach_call hn hdf fun w s0 s1 mg mb fa o pm cd doc a vs ns G Y ho hd hcd hmg hobj hints hlen hg => by
    obtain ⟨K, fd, sp, hK, hb, hs, hF⟩ := F w mg fa _ Y G.T.g hmg
    refine law_call hK G.T.g G.T.b G.T.builtins G.T.nolimit hg hobj hints ?_ hr hF hb (fun H o s => hs H a ns hlen o s) fun H e s' c => hCX w H s1 e s' c
    exact Nat.le_trans hlen hle
end Z

namespace My
open PySem L2
def top (i : Nat) : Stmt := PySem.Challenge.pw_ownchain_k07_whole_parts_exchanged.main.body.getD i (.Pass ⟨0, 0, 0, 0⟩)
abbrev st_NoSheet_init : Stmt := inClass (top 2) 0
abbrev nm_NoSheet_init : List Str := ["self", "place", "word"]
abbrev st_parts_of : Stmt := top 15
abbrev nm_parts_of : List Str := ["kind"]
abbrev st_Look_init : Stmt := inClass (top 22) 0
abbrev nm_Look_init : List Str := ["self", "numbers"]
abbrev st_Look_due : Stmt := inClass (top 22) 1
abbrev nm_Look_due : List Str := ["self"]
abbrev st_Look_within : Stmt := inClass (top 22) 2
abbrev nm_Look_within : List Str := ["self", "low", "high", "number"]
abbrev st_heads_in : Stmt := top 23
abbrev nm_heads_in : List Str := ["look", "found", "function", "params"]
abbrev st_own_numbers : Stmt := top 24
abbrev nm_own_numbers : List Str := ["look", "heads", "boxes", "kind", "many", "function"]
abbrev st_node_in : Stmt := top 25
abbrev nm_node_in : List Str := ["look", "heads", "boxes", "deep", "place", "kind", "numbers", "many", "parts", "part"]
abbrev st_functions : Stmt := top 26
abbrev nm_functions : List Str := ["sheet", "look", "heads", "found", "params", "boxes"]
abbrev st_wrong : Stmt := top 27
abbrev nm_wrong : List Str := ["numbers", "found", "e"]
abbrev st_nodes_in : Stmt := top 28
abbrev nm_nodes_in : List Str := ["node", "found", "part"]
abbrev st_nodes : Stmt := top 29
abbrev nm_nodes : List Str := ["sheet", "found", "params", "boxes", "body"]
abbrev st_Lmixed : Stmt := top 31
abbrev nm_Lmixed : List Str := ["_law_cell", "_law_k", "_law_one", "_law_two"]
abbrev st_Ltake : Stmt := top 32
abbrev nm_Ltake : List Str := ["_law_state", "_law_many_here", "_law_script", "_law_k", "_law_cell", "_law_found"]
abbrev st_Lheads : Stmt := top 33
abbrev nm_Lheads : List Str := ["_law_state", "_law_many_here", "_law_heads_here", "_law_k", "_law_params"]
abbrev st_Lnumber : Stmt := top 34
abbrev nm_Lnumber : List Str := ["_law_state", "_law_way"]
abbrev st_Lleaf : Stmt := top 35
abbrev nm_Lleaf : List Str := ["_law_state", "_law_boxes", "_law_way"]
abbrev st_Lhead : Stmt := top 36
abbrev nm_Lhead : List Str := ["_law_state", "_law_heads_here", "_law_boxes", "_law_kind", "_law_many_here", "_law_function"]
abbrev st_Lnode : Stmt := top 37
abbrev nm_Lnode : List Str := ["_law_state", "_law_heads_here", "_law_boxes", "_law_deep", "_law_room", "_law_found", "_law_many_here", "_law_part"]
abbrev st_Lsheet : Stmt := top 38
abbrev nm_Lsheet : List Str := ["_law_state", "_law_most", "_law_heads_here", "_law_found", "_law_params", "_law_boxes"]
abbrev st_Lsheet_with : Stmt := top 39
abbrev nm_Lsheet_with : List Str := ["_law_state", "_law_heads_here", "_law_most", "_law_found", "_law_params", "_law_boxes"]
abbrev st_Lmany : Stmt := top 40
abbrev nm_Lmany : List Str := ["_law_node_here", "_law_found", "_law_wait", "_law_one"]
abbrev st_Ldepth : Stmt := top 41
abbrev nm_Ldepth : List Str := ["_law_node_here", "_law_deep", "_law_wait", "_law_one", "_law_here", ".0", "_law_part"]
abbrev st_Ldepths : Stmt := top 42
abbrev nm_Ldepths : List Str := ["_law_some", "_law_found", "_law_behind", "_law_function", "_law_node_here"]
abbrev st_Lin_function : Stmt := top 43
abbrev nm_Lin_function : List Str := ["_law_depths_here", "_law_function", ".0", "_law_k"]
abbrev st_Lheads_of : Stmt := top 44
abbrev nm_Lheads_of : List Str := ["_law_sheet_here", ".0", "_law_k"]
abbrev st_Lput : Stmt := top 45
abbrev nm_Lput : List Str := ["_law_sheet_here", "_law_node_here", "_law_numbers", "_law_behind"]
abbrev st_Lall_bare : Stmt := top 46
abbrev nm_Lall_bare : List Str := ["_law_some", ".0", "_law_one"]
abbrev st_Lexchanged : Stmt := top 47
abbrev nm_Lexchanged : List Str := ["_law_sheet_here", "_law_some", "_law_at", "_law_numbers", "_law_deep", "_law_node_here", "_law_here", "_law_new", "_law_found", "_law_end", "_law_inner", "_law_told", "_law_left", "_law_later", "_law_before", ".0", "_law_one"]
abbrev st_law : Stmt := top 48
abbrev nm_law : List Str := ["_law_script", "_law_state", "_law_sheet_here", "_law_heads_here", "_law_other", "_law_some", "_law_others", "_law_mine", "_law_yours", "_law_turn", "_law_at", "_law_fitting", "_law_node_here", "_law_numbers", "_law_own", "_law_deep"]
end My
namespace My
open PySem Z
open L2 hiding rLen Same Same.refl Same.trans Same.free Same.seq Same.made

/-! ### the top's run, and what is told of it -/
def hnames0 : List Str := ["ChainError", "NoSheet", "NUMBER", "GET", "SET", "ALL", "PICK", "LOOP", "CALL", "FAIL", "PUT", "SIZE", "NEW", "parts_of", "MOST_FUNCTIONS", "MOST_PARAMS", "MOST_BOXES", "MOST_PARTS", "MOST_DEEP", "Look", "heads_in", "own_numbers", "node_in", "functions", "wrong", "nodes_in", "nodes", "_law_mixed", "_law_take", "_law_heads"]
def hnames1 : List Str := ["_law_number", "_law_leaf", "_law_head", "_law_node", "_law_sheet", "_law_sheet_with", "_law_many", "_law_depth", "_law_depths", "_law_in_function", "_law_heads_of", "_law_put", "_law_all_bare", "_law_exchanged"]
def hnames : List Str := hnames0 ++ (hnames1)
abbrev htx : List (Str × List Str) := []
abbrev hdc : List (Str × List Str) := []
def hfa0 : List He.Fa := [
  .int "NUMBER" 0,
  .int "GET" 1,
  .int "SET" 2,
  .int "ALL" 3,
  .int "PICK" 4,
  .int "LOOP" 5,
  .int "CALL" 6,
  .int "FAIL" 7,
  .int "PUT" 17,
  .int "SIZE" 18,
  .int "NEW" 19,
  .int "MOST_FUNCTIONS" 16,
  .int "MOST_PARAMS" 4,
  .int "MOST_BOXES" 12,
  .int "MOST_PARTS" 12,
  .int "MOST_DEEP" 10,
  .free "abs",
  .free "int",
  .free "isinstance",
  .free "len",
  .free "list",
  .free "max",
  .free "range",
  .free "tuple",
  .glo "Look",
  .cls "Look",
  .mkr "Look",
  .meth "Look" "due",
  .meth "Look" "within",
  .noat "Look" "numbers",
  .noat "Look" "place",
  .glo "parts_of",
  .glo "heads_in",
  .glo "own_numbers",
  .glo "node_in",
  .glo "functions",
  .glo "wrong",
  .glo "nodes_in",
  .glo "nodes",
  .glo "_law_mixed",
  .glo "_law_take",
  .glo "_law_heads",
  .glo "_law_number",
  .glo "_law_leaf",
  .glo "_law_head",
  .glo "_law_node",
  .glo "_law_sheet",
  .glo "_law_sheet_with",
  .glo "_law_many",
  .glo "_law_depth",
  .glo "_law_depths",
  .glo "_law_in_function",
  .glo "_law_heads_of",
  .glo "_law_put",
  .glo "_law_all_bare",
  .glo "_law_exchanged",
  .glo "law",
  .glo "ChainError",
  .glo "NoSheet",
  .exm "NoSheet" "NoSheet" true]
def hfn0 : List He.DefD := [
  ⟨("NoSheet", some "__init__"), "__init__", "NoSheet.__init__", defArgs st_NoSheet_init, defBody st_NoSheet_init, defScope st_NoSheet_init, [], []⟩,
  ⟨("parts_of", none), "parts_of", "parts_of", defArgs st_parts_of, defBody st_parts_of, defScope st_parts_of, [], []⟩,
  ⟨("Look", some "__init__"), "__init__", "Look.__init__", defArgs st_Look_init, defBody st_Look_init, defScope st_Look_init, [], []⟩,
  ⟨("Look", some "due"), "due", "Look.due", defArgs st_Look_due, defBody st_Look_due, defScope st_Look_due, [], []⟩,
  ⟨("Look", some "within"), "within", "Look.within", defArgs st_Look_within, defBody st_Look_within, defScope st_Look_within, [], []⟩,
  ⟨("heads_in", none), "heads_in", "heads_in", defArgs st_heads_in, defBody st_heads_in, defScope st_heads_in, [], []⟩,
  ⟨("own_numbers", none), "own_numbers", "own_numbers", defArgs st_own_numbers, defBody st_own_numbers, defScope st_own_numbers, [], []⟩,
  ⟨("node_in", none), "node_in", "node_in", defArgs st_node_in, defBody st_node_in, defScope st_node_in, [], []⟩,
  ⟨("functions", none), "functions", "functions", defArgs st_functions, defBody st_functions, defScope st_functions, [], []⟩,
  ⟨("wrong", none), "wrong", "wrong", defArgs st_wrong, defBody st_wrong, defScope st_wrong, [], []⟩,
  ⟨("nodes_in", none), "nodes_in", "nodes_in", defArgs st_nodes_in, defBody st_nodes_in, defScope st_nodes_in, [], []⟩,
  ⟨("nodes", none), "nodes", "nodes", defArgs st_nodes, defBody st_nodes, defScope st_nodes, [], []⟩,
  ⟨("_law_mixed", none), "_law_mixed", "_law_mixed", defArgs st_Lmixed, defBody st_Lmixed, defScope st_Lmixed, [], []⟩,
  ⟨("_law_take", none), "_law_take", "_law_take", defArgs st_Ltake, defBody st_Ltake, defScope st_Ltake, [], []⟩,
  ⟨("_law_heads", none), "_law_heads", "_law_heads", defArgs st_Lheads, defBody st_Lheads, defScope st_Lheads, [], []⟩,
  ⟨("_law_number", none), "_law_number", "_law_number", defArgs st_Lnumber, defBody st_Lnumber, defScope st_Lnumber, [], []⟩,
  ⟨("_law_leaf", none), "_law_leaf", "_law_leaf", defArgs st_Lleaf, defBody st_Lleaf, defScope st_Lleaf, [], []⟩,
  ⟨("_law_head", none), "_law_head", "_law_head", defArgs st_Lhead, defBody st_Lhead, defScope st_Lhead, [], []⟩,
  ⟨("_law_node", none), "_law_node", "_law_node", defArgs st_Lnode, defBody st_Lnode, defScope st_Lnode, [], []⟩,
  ⟨("_law_sheet", none), "_law_sheet", "_law_sheet", defArgs st_Lsheet, defBody st_Lsheet, defScope st_Lsheet, [], []⟩,
  ⟨("_law_sheet_with", none), "_law_sheet_with", "_law_sheet_with", defArgs st_Lsheet_with, defBody st_Lsheet_with, defScope st_Lsheet_with, [], []⟩,
  ⟨("_law_many", none), "_law_many", "_law_many", defArgs st_Lmany, defBody st_Lmany, defScope st_Lmany, [], []⟩,
  ⟨("_law_depth", none), "_law_depth", "_law_depth", defArgs st_Ldepth, defBody st_Ldepth, defScope st_Ldepth, [], []⟩,
  ⟨("_law_depths", none), "_law_depths", "_law_depths", defArgs st_Ldepths, defBody st_Ldepths, defScope st_Ldepths, [], []⟩]
def hex0 (K : PySem.W.Frag) : List Bool := [
  PySem.W.readsIn K (He.ga K "ChainError") (.type "type"),
  decide (PySem.W.specialIn K (.ref (He.ga K "ChainError")) "__getattribute__" = some (some (.builtin "type.__getattribute__"))),
  _root_.Z.veiB K (He.ga K "ChainError"),
  decide (PySem.W.findIn K (.ref (He.ga K "NoSheet")) "place" = some none),
  decide (PySem.W.findIn K (.ref (He.ga K "NoSheet")) "word" = some none),
  _root_.Z.oexB K (He.ga K "NoSheet"),
  decide (PySem.W.findIn K (.ref (He.ga K "NoSheet")) "__setattr__" = some (some (.builtin "object.__setattr__"))),
  decide (PySem.W.subIn K (.ref (He.ga K "NoSheet")) (.type "BaseException") = some true),
  decide (PySem.W.typeIn K (.ref (He.ga K "NoSheet")) = some (.type "type")),
  PySem.W.keepIn K (.ref (He.ga K "NoSheet")),
  xfB K (He.ga K "NoSheet"),
  decide (PySem.W.findIn K (.ref (He.ga K "NoSheet")) "__init__" = some (some (.ref (He.fAd K ("NoSheet", some "__init__"))))),
  decide (PySem.W.typeIn K (.ref (He.fAd K ("NoSheet", some "__init__"))) = some (.type "function"))]
abbrev hc0 : _root_.Z.Chk := ⟨hfa0, hfn0, [], hex0, htx, hdc⟩
def hfa1 : List He.Fa := []
def hfn1 : List He.DefD := [
  ⟨("_law_in_function", none), "_law_in_function", "_law_in_function", defArgs st_Lin_function, defBody st_Lin_function, defScope st_Lin_function, [], []⟩,
  ⟨("_law_heads_of", none), "_law_heads_of", "_law_heads_of", defArgs st_Lheads_of, defBody st_Lheads_of, defScope st_Lheads_of, [], []⟩,
  ⟨("_law_put", none), "_law_put", "_law_put", defArgs st_Lput, defBody st_Lput, defScope st_Lput, [], []⟩,
  ⟨("_law_all_bare", none), "_law_all_bare", "_law_all_bare", defArgs st_Lall_bare, defBody st_Lall_bare, defScope st_Lall_bare, [], []⟩,
  ⟨("_law_exchanged", none), "_law_exchanged", "_law_exchanged", defArgs st_Lexchanged, defBody st_Lexchanged, defScope st_Lexchanged, [], []⟩,
  ⟨("law", none), "law", "law", defArgs st_law, defBody st_law, defScope st_law, [], []⟩]
def hex1 (K : PySem.W.Frag) : List Bool := []
abbrev hc1 : _root_.Z.Chk := ⟨hfa1, hfn1, [], hex1, [], []⟩
abbrev hcs : List _root_.Z.Chk := [hc0, hc1]
abbrev hR : PySem.W.OpenRow := PySem.W.OpenLaw.row PySem.Challenge.rw_ownchain_k07_whole_parts_exchanged
abbrev hq : Program := PySem.W.view hR.prog [48]
abbrev hhk : PySem.W.Hook := _root_.Z.hookM 4 hcs
abbrev hob (s : PySem.W.SharedT) : List _root_.Z.ObsT := hcs.map fun c => c.obs 4 (HandSHeadRun.getT s)
theorem hob_eq (s : PySem.W.SharedT) : hob s = hhk.obs s.abs := _root_.Z.obsM_eq (HandSHeadRun.getT_eq s)
section
open PySem.W HandSHeadRun
set_option maxHeartbeats 0 in
theorem hrunS (w : World) : ∀ os : OsState, (endF (stepQ (denQ tabQ) hR.prog w) 20000 hR.prog w os).map (fun s => (looksF hR.prog (boot_heap w.params) s.abs, seenQ hq hnames (importedModules hR.prog.main.body) (fun s => xlAt hq [] s && recOk hR.toRowW.records s) s.abs)) = some (true, openGood hq hnames) := by
  intro os
  kernel_rfl
set_option maxHeartbeats 0 in
theorem hrun0 (w : World) : ∀ os : OsState, (endF (stepQ (denQ tabQ) hR.prog w) 20000 hR.prog w os).map (fun s => hc0.obs 4 (getT s)) = some (hc0.val w) := by
  intro os
  kernel_rfl
set_option maxHeartbeats 0 in
theorem hrun1 (w : World) : ∀ os : OsState, (endF (stepQ (denQ tabQ) hR.prog w) 20000 hR.prog w os).map (fun s => hc1.obs 4 (getT s)) = some (hc1.val w) := by
  intro os
  kernel_rfl
theorem hrun (w : World) : RunEq hR hq hhk hob 20000 hnames w := fun os => _root_.Z.runs_of (cs := hcs) (o := fun c s => c.obs 4 (getT s)) (v := fun c => c.val w) (hrunS w os) fun c hc => by
  first | simp only [hcs, List.mem_cons, List.not_mem_nil, or_false] at hc | simp only [List.mem_cons, List.not_mem_nil, or_false] at hc
  rcases hc with rfl | rfl
  · exact hrun0 w os
  · exact hrun1 w os
end
theorem imp_use {P Q : Prop} (p : P) (f : P → Q) : Q := f p
abbrev AllT : Prop := ∀ (w : World) (mg : Str → Option Value) (f : Addr) (h : Heap), (∃ K : PySem.W.Frag, K.In h ∧ ∀ c ∈ hcs, _root_.Z.SaysM c.fa c.fn c.tf c.ex c.tx c.dc w h K) → h.Ns mainGlobals mg → mg "law" = some (.ref f) → ∃ (K : PySem.W.Frag) (fd : FuncData) (sp : Sp), K.In h ∧ (∀ (s : Shared) (u : Value), BindsTo s fd ⟨[u], []⟩ [("_law_script", u)]) ∧
  (∀ (H : Hp) (a : Addr) (ns : List Int), ns.length ≤ 63 → Only H → SqL K H a (ns.map V.int) → sp [.ref a] H (fun v _ => v = .bl true) fun _ _ _ => False) ∧ ∀ base : Heap, K.In base → base.Ns mainGlobals mg → FnOk (PySem.Challenge.rw_ownchain_k07_whole_parts_exchanged).prog w K mg base (L2.CX (PySem.Challenge.rw_ownchain_k07_whole_parts_exchanged).prog w) 21 f fd ["_law_script"] sp
end My
section
open PySem PySem.W PySem.Calls PyProof.Rows
local macro_rules
  | `(tactic| refine $h:ident $args*) => do
    unless [`PySem.W.holds_open, `PySem.W.holds_openC, `PySem.W.holds_openN, `PySem.W.holds_openCN].contains h.getId do Lean.Macro.throwUnsupported
    let a := Lean.mkIdent `A
    `(tactic| refine My.imp_use (P := My.AllT) @$a (fun ($a : My.AllT) => $h $args*))
theorem My.head_ownchain_k07_whole_parts_exchanged (A : My.AllT) : PySem.Challenge.rw_ownchain_k07_whole_parts_exchanged.Holds := by
  w_on; o_law
  refine HandSHeadRun.head_any (r := My.hR) (q := My.hq) (H := My.hhk) (ob := My.hob) (M := 20000) (loose := My.hnames) (d := HandSHeadRun.topDef My.hR.prog 48) (kwd := []) My.hob_eq (by kernel_rfl) (fun s => by kernel_rfl) My.hrun (by kernel_rfl) (by kernel_rfl) (by kernel_rfl) (by rfl) (by first | assumption | decide +kernel) (by decide +kernel) ⟨rfl, rfl, rfl, rfl, rfl, by decide +kernel⟩ ?hw ?hc
  case hw => w_witness2
  case hc =>
    refine _root_.Z.walkM (l := PySem.Challenge.rw_ownchain_k07_whole_parts_exchanged) (n := 63) (k := 21) (x := "_law_script") (CX := fun w => L2.CX (PySem.Challenge.rw_ownchain_k07_whole_parts_exchanged).prog w) rfl (by decide) (by kernel_rfl) ⟨rfl, by decide, by decide⟩ ?F ?C
    case C =>
      intro w H s e s' z
      obtain ⟨_, _, _, _, _, _, _, _, _, _, _, _, z⟩ := z
      exact z.elim
    case F =>
      intro w mg f h Y G hm
      have hl : mg ("law" : PySem.Str) = some (.ref f) := by
        have e : (HandSHeadRun.topDef My.hR.prog 48).name = ("law" : PySem.Str) := by kernel_rfl
        rw [← e]
        exact hm
      exact A w mg f h Y G hl
end
set_option Elab.async false
set_option linter.all false
set_option maxRecDepth 100000
set_option maxHeartbeats 4000000
/-! Step lemmas over the hand layer's readings: each goal of a reading is turned by one lemma. -/
/-- the names that the tables of code objects bear, by place -/
class TQ where
  q : PySem.Addr → PySem.Str
namespace Z
open PySem PySem.Spec PyProof.Rows L2

abbrev kS (s : Str) : Key := Sum.inr s
abbrev kI (i : Int) : Key := Sum.inl i
/-! ### universal rules: by the values -/
section
variable {X : Cx}
def rFdv : R2 := rI (fun _ j => j ≠ 0 ∧ j.natAbs.log2 < 9000) fun i j => .int (i.fdiv j)
theorem op_fdv : OpR X (binaryOp .FloorDiv) rFdv := opI fun i j _ _ _ _ _ hc q => floordiv_int hc.1 q (.inl (PyProof.noPylong_of_log2 hc.2))
def rMod : R2 := rI (fun _ j => j ≠ 0) fun i j => .int (i.fmod j)
theorem op_md : OpR X (binaryOp .Mod) rMod := op_modN
def rMul : R2 := rI (fun i j => CMul i j ∨ CMulW i j) fun i j => .int (i * j)
theorem op_ml : OpR X (binaryOp .Mult) rMul := opI fun _ _ _ _ _ _ _ hc q => mul_int q (hc.elim CMul.ok CMulW.ok)
def rAddI : R2 := rI0 fun i j => .int (i + j)
def rAddS : R2 := fun x y H Q => ∃ i j, x = .str i ∧ y = .str j ∧ i.length + j.length ≤ sizeLine ∧ Q (.str (i ++ j)) H
def rAddU (K : PySem.W.Frag) : R2 := fun x y H Q => rAddI x y H Q ∨ rAddS x y H Q ∨ rCat x y H Q ∨ rCatA K x y H Q
theorem op_addU : OpR X (binaryOp .Add) (rAddU X.K) := OpR.or op_add (OpR.or op_add_str (OpR.or op_cat op_catA))
def rLenE (b : Bool) : R2 := fun x y H Q => ∃ p q xs ys, x = .ref p ∧ y = .ref q ∧ H p = some (.lst xs) ∧ H q = some (.lst ys) ∧ xs.length ≠ ys.length ∧ Q (.bl b) H
theorem lens_of {pins : List (Addr × Obj)} {σ : L2.St} {H : Hp} {s : Shared} {p q : Addr} {xs ys : List V} (I : Inv X pins σ H s) (h1 : H p = some (.lst xs)) (h2 : H q = some (.lst ys)) (hn : xs.length ≠ ys.length) :
    ∃ i1 i2 : Array Value, s.heap.IsList p i1 ∧ s.heap.IsList q i2 ∧ (i1.size != i2.size) = true := by
  obtain ⟨_, a, n, _, la, ea⟩ := I.lstM h1
  obtain ⟨_, b, m, _, lb, eb⟩ := I.lstM h2
  refine ⟨a.toArray, b.toArray, ⟨_, ea, rfl, n, rfl⟩, ⟨_, eb, rfl, m, rfl⟩, ?_⟩
  rw [List.size_toArray, List.size_toArray, ← la, ← lb]
  simpa using hn
theorem op_eqLen (hu : X.A.units + 64 < cLine) : OpR X (compareOp .Eq) (rLenE false) := fun pins s σ H x y v u Q I rx ry h => by
  obtain ⟨p, q, xs, ys, rfl, rfl, h1, h2, hn, k⟩ := h
  obtain rfl : v = Value.ref p := rx
  obtain rfl : u = Value.ref q := ry
  obtain ⟨i1, i2, a, b, c⟩ := lens_of I h1 h2 hn
  exact PySem.SeqAt.RcAt.lists_lengths a b c (by omega) X.prog X.w X.xe _ ⟨.bl false, H, I, rfl, k⟩
theorem op_neLen (hu : X.A.units + 64 < cLine) : OpR X (compareOp .NotEq) (rLenE true) := fun pins s σ H x y v u Q I rx ry h => by
  obtain ⟨p, q, xs, ys, rfl, rfl, h1, h2, hn, k⟩ := h
  obtain rfl : v = Value.ref p := rx
  obtain rfl : u = Value.ref q := ry
  obtain ⟨i1, i2, a, b, c⟩ := lens_of I h1 h2 hn
  exact PySem.SeqAt.RcNeAt.lists_lengths a b c (by omega) X.prog X.w X.xe _ ⟨.bl true, H, I, rfl, k⟩
def rEqU (K : PySem.W.Frag) : R2 := fun x y H Q => rEq x y H Q ∨ rEqD K x y H Q ∨ rLenE false x y H Q
theorem op_eqU (hu : X.A.units + 64 < cLine) : OpR X (compareOp .Eq) (rEqU X.K) := OpR.or op_eq (OpR.or (op_eqD hu) (op_eqLen hu))
def rNeU (K : PySem.W.Frag) : R2 := fun x y H Q => rNe x y H Q ∨ rNeD K x y H Q ∨ rLenE true x y H Q
theorem op_neU (hu : X.A.units + 64 < cLine) : OpR X (compareOp .NotEq) (rNeU X.K) := OpR.or op_ne (OpR.or (op_neD hu) (op_neLen hu))
def rSlU (K : PySem.W.Frag) : V → Option Int → Option Int → Hp → VK → Prop := fun x lo hi H Q => rSlL K x lo hi H Q ∨ rSlA K x lo hi H Q
theorem sl_U : SlR X (rSlU X.K) := SlR.or sl_list sl_tupA
def rLen (K : PySem.W.Frag) : List V → Hp → VK → Prop := fun xs H Q => ∃ x n, xs = [x] ∧ LenV K x H n ∧ Q (.int (n : Nat)) H
theorem call_len' : CallR X (.builtin "len") (rLen X.K) := call_len
theorem pe_powc {b n z : Int} {k k' : Nat} {p p' pos : Pos} (hc : CPow b n) (h : b ^ n.toNat = z) : PE X (.BinOp (.Constant (.int b) k p) .Pow (.Constant (.int n) k' p') pos) (tC (.int z)) :=
  ⟨fun pins s σ H Q I q => (pe_op op_pow pe_int pe_int).run pins s σ H Q I ⟨b, n, rfl, rfl, hc, by show Q (.int (b ^ n.toNat)) H; rw [h]; exact q⟩⟩
def rMin2 : List V → Hp → VK → Prop := fun xs H Q => ∃ i j, xs = [.int i, .int j] ∧ Q (.int (if j < i then j else i)) H
theorem call_min' (hc : X.calm = true) : CallR X (.builtin "min") rMin2 := call_min2 hc
def rMax2 : List V → Hp → VK → Prop := fun xs H Q => ∃ i j, xs = [.int i, .int j] ∧ Q (.int (if j > i then j else i)) H
theorem call_max' (hc : X.calm = true) : CallR X (.builtin "max") rMax2 := call_max2 hc
def rListOf (K : PySem.W.Frag) : List V → Hp → VK → Prop := fun xs H Q => ∃ p ys, xs = [.ref p] ∧ (SqL K H p ys ∨ SqT K H p ys) ∧ ∀ l, H l = none → Q (.ref l) (upd H l (.lst ys))
theorem call_list' : CallR X (.type "list") (rListOf X.K) := call_list_of
def rTupOf (K : PySem.W.Frag) : List V → Hp → VK → Prop := fun xs H Q => ∃ p ys, xs = [.ref p] ∧ ((SqL K H p ys ∧ ∀ l, H l = none → Q (.ref l) (upd H l (.tup ys))) ∨ (SqT K H p ys ∧ Q (.ref p) H))
theorem call_tuple' : CallR X (.type "tuple") (rTupOf X.K) := call_tuple_of
def rInt1 : List V → Hp → VK → Prop := fun xs H Q => (∃ i, xs = [.int i] ∧ Q (.int i) H) ∨ ∃ k, xs = [.bl k] ∧ Q (.int (if k then 1 else 0)) H
theorem call_int' : CallR X (.type "int") rInt1 := call_int1
def rAbs : List V → Hp → VK → Prop := fun xs H Q => ∃ i, xs = [.int i] ∧ Q (.int (if i < 0 then -i else i)) H
theorem call_abs' : CallR X (.builtin "abs") rAbs := call_abs
def rStrI : List V → Hp → VK → Prop := fun xs H Q => ∃ i, xs = [.int i] ∧ i.natAbs.log2 < 1920 ∧ Q (.str (toString i)) H
theorem call_str' : CallR X (.type "str") rStrI := call_str_int
def rIsNz : R2 := fun x y H Q => y = .non ∧ Q (.bl (decide (x = .non))) H
theorem op_isNz : OpR X (compareOp .Is) rIsNz := op_isN
def rNotNz : R2 := fun x y H Q => y = .non ∧ Q (.bl (!decide (x = .non))) H
theorem op_notNz : OpR X (compareOp .IsNot) rNotNz := op_notN
/-- a, b = a tuple or a list -/
def gUn (K : PySem.W.Frag) (n : Nat) (t : TGs) : TG := fun v σ H Q => gTup K n t v σ H Q ∨ gLst K n t v σ H Q
theorem pg_un {pos : Pos} {es : List Expr} {k : Nat} {t : TGs} {n : Nat} (hc : X.calm = true) (h : PGs X es t)
    (hn : (assignEach es X.env).length = n := by rfl) (hst : (assignEach es X.env).findIdx? (·.1) = none := by rfl) : PG X (.Tuple es k pos) (gUn X.K n t) :=
  ⟨fun pins s σ H v u Q I r hw => hw.elim (fun z => (pg_tup hc h hn hst).run pins s σ H v u Q I r z) fun z => (pg_lst hc h hn hst).run pins s σ H v u Q I r z⟩
def rIsi2 (K : PySem.W.Frag) : List V → Hp → VK → Prop := fun xs H Q => rIsi K xs H Q ∨ rIsiT K xs H Q
theorem call_isi' : CallR X (.builtin "isinstance") (rIsi2 X.K) := fun pins s σ H vs us Q I r h => h.elim (fun z => call_isi pins s σ H vs us Q I r z) (fun z => call_isiT pins s σ H vs us Q I r z)
end

def rJoin (K : PySem.W.Frag) : V → List V → Hp → VK → Prop := fun x xs H Q => ∃ a p, ∃ ys : List Str, x = .str a ∧ xs = [.ref p] ∧ (SqL K H p (ys.map V.str) ∨ SqT K H p (ys.map V.str)) ∧
  (ys.map (·.length)).sum + ys.length * a.length ≤ 16777216 ∧ Q (.str (Txt.join a ys)) H
def rWords : V → List V → Hp → VK → Prop := fun x xs H Q => ∃ a, x = .str a ∧ xs = [] ∧ a.length + 2 ≤ sizeLine ∧ rNewStrs (Txt.words a) H Q
def rSplit : V → List V → Hp → VK → Prop := fun x xs H Q => ∃ a b, x = .str a ∧ xs = [.str b] ∧ (b.length == 0) = false ∧ a.length + 2 ≤ sizeLine ∧ rNewStrs (Txt.split a b) H Q
def rUpper : V → List V → Hp → VK → Prop := fun x xs H Q => ∃ a, x = .str a ∧ xs = [] ∧ a.length ≤ 5592405 ∧ Q (.str (Txt.upper a)) H
def rRstrip : V → List V → Hp → VK → Prop := fun x xs H Q => ∃ a, x = .str a ∧ xs = [] ∧ a.length ≤ sizeLine ∧ Q (.str (Txt.rstrip a)) H
def rStrip : V → List V → Hp → VK → Prop := fun x xs H Q => ∃ a, x = .str a ∧ xs = [] ∧ a.length ≤ sizeLine ∧ Q (.str (Txt.strip a)) H
theorem sqT_mk {K : PySem.W.Frag} {H : Hp} {a : Addr} {xs : List V} {its : Array Value} {n : Nat} {od : Option Addr} {sl : Array (Option Value)} (l : K.lookup a = some ⟨.type "tuple", od, .seq its n, sl⟩) (hz : its.size ≤ 1000) (v : Vals xs its.toList) : SqT K H a xs :=
  .inr ⟨_, its, n, l, rfl, rfl, Nat.le_trans hz (by decide), v⟩

theorem at_ofN {α : Type} {xs : List α} {z : Int} {j : Nat} {v : α} (e : z = (j : Int)) (h : xs[j]? = some v) : atI xs z = some v := by
  rw [e]
  exact atI_nat h
/-! ### own functions without arguments, methods, made instances: what they may let out at the slots -/
section
open PySem.Calls
variable {X : Cx} {CX : CXT} {k : Nat} {f C : Addr} {fd : FuncData} {ps : List Str} {sp : Sp} {E : L2.St → XK} {x m : Str} {p pos apos : Pos} {e o : Expr} {es : List Expr} {ta : TE} {t : TA}
theorem pe_call0Z (F : FnOk X.prog X.w X.K X.mg X.base CX k f fd ps sp) (hr : Room k X.A) (hg : Gl X x) (hm : X.mg x = some (.ref f)) (hk : PySem.W.keepIn X.K (.ref f) = true) (hb : Binds X.K fd ps []) (hx : ∀ σ, PassesAt CX X σ (E σ))
    (hdb : (x == ("__debug__" : Str)) = false := by decide) : PE X (.Call (.Name x p) [] [] pos) (tCallS sp E tNil) := by
  refine ⟨fun pins s σ H Q I h => ?_⟩
  refine wpAny_Call_Name_kw (ld_glob I hg hm ?_ hdb)
  exact PySem.W.callWith_K0 I.kIn hk (run_fnS (us := []) F hr hb (hx σ) I .nil h)
def zSelf (C : Addr) (m : Str) (x : V) (H : Hp) (N : Prop) : Prop := ∃ a dx fs, x = .ref a ∧ H a = some (.ins C dx fs) ∧ fs.lookup m = none ∧ N
def tMethZ (C : Addr) (m : Str) (sp : Sp) (E : L2.St → XK) (ta : TE) (t : TA) : TE := fun σ H Q => ta σ H fun x H1 => ∃ a dx fs, x = .ref a ∧ H1 a = some (.ins C dx fs) ∧ fs.lookup m = none ∧ t σ H1 fun vs H2 => sp (x :: vs) H2 Q (E σ)
theorem pe_methZ {pl : Sem Bool} (he : PE X o ta) (c : Cls X.K C) (hm : Meth X.K C m f) (F : FnOk X.prog X.w X.K X.mg X.base CX k f fd ps sp) (hr : Room k X.A) (hb : Binds X.K fd ps []) (hx : ∀ σ, PassesAt CX X σ (E σ)) (ha : PA X (e :: es) t)
    (hst : starEach (e :: es) X.env = (false, eval e X.env) :: starEach es X.env := by rfl) (hpl : (backTo pos (starEach es X.env)).any (·.1) = false := by rfl)
    (ht : eval (.Call (.Attribute o m apos) (e :: es) [] pos) X.env = (do
      let ov ← eval o X.env
      standAt apos.atName
      let (f, first) ← holding [ov] (getMethod ov m pl)
      callWith pos f first (backTo pos (starEach (e :: es) X.env)) (backToKw pos (keywordEach [] X.env))) := by rfl) :
    PE X (.Call (.Attribute o m apos) (e :: es) [] pos) (tMethZ C m sp E ta t) := by
  refine ⟨fun pins s σ H Q I h => ?_⟩
  refine PySem.W.methodCall_KW (pl := pl) (thn (he.run pins s σ H _ I h) fun u s1 ⟨x, H1, I1, rx, a, dx, fs, ex, ea, l, q⟩ => ?_) ht
  subst ex
  obtain rfl : u = Value.ref a := rx
  refine getmeth_ok I1 ea c hm l ?_
  refine PySem.W.callWith_K (first := [.ref a]) (h₀ := X.base) I.ok.mod.kin hm.kp (thn (ha.run pos pins s1 σ H1 _ I1 q) fun us s2 ⟨vs, H2, I2, r, q2⟩ => ⟨I2.kIn, ?_⟩) hst hpl
  exact run_fnS (us := .ref a :: us) (vs := .ref a :: vs) F hr hb (hx σ) I2 (.cons rfl r) q2
theorem pe_meth0Z {pl : Sem Bool} (he : PE X o ta) (c : Cls X.K C) (hm : Meth X.K C m f) (F : FnOk X.prog X.w X.K X.mg X.base CX k f fd ps sp) (hr : Room k X.A) (hb : Binds X.K fd ps []) (hx : ∀ σ, PassesAt CX X σ (E σ))
    (ht : eval (.Call (.Attribute o m apos) [] [] pos) X.env = (do
      let ov ← eval o X.env
      standAt apos.atName
      let (f, first) ← holding [ov] (getMethod ov m pl)
      callWith pos f first (backTo pos (starEach [] X.env)) (backToKw pos (keywordEach [] X.env))) := by rfl) :
    PE X (.Call (.Attribute o m apos) [] [] pos) (tMethZ C m sp E ta tNil) := by
  refine ⟨fun pins s σ H Q I h => ?_⟩
  refine PySem.W.methodCall_KW (pl := pl) (thn (he.run pins s σ H _ I h) fun u s1 ⟨x, H1, I1, rx, a, dx, fs, ex, ea, l, q⟩ => ?_) ht
  subst ex
  obtain rfl : u = Value.ref a := rx
  refine getmeth_ok I1 ea c hm l ?_
  exact PySem.W.callWith_K0 (first := [.ref a]) I1.kIn hm.kp (run_fnS (us := [.ref a]) (vs := [.ref a]) F hr hb (hx σ) I1 (.cons rfl .nil) q)
def tMakeZ (C : Addr) (sp : Sp) (E : L2.St → XK) (t : TA) : TE := fun σ H Q => t σ H fun vs H1 => ∀ x dx, H1 x = none → H1 dx = none → dx ≠ x →
  sp (.ref x :: vs) (upd (upd H1 dx (.own x)) x (.ins C dx [])) (fun v H2 => v = .non ∧ Q (.ref x) H2) (E σ)
theorem run_makeZ {pins : List (Addr × Obj)} {σ : L2.St} {H : Hp} {s : Shared} {Q : VK} {us : List Value} {vs : List V} {E : XK} (M : Mk X.K C f) (F : FnOk X.prog X.w X.K X.mg X.base CX k f fd ps sp) (hr : Room (k + 1) X.A) (hb : Binds X.K fd ps [])
    (hx : PassesAt CX X σ E) (I : Inv X pins σ H s) (r : Vals vs us)
    (h : ∀ x dx, H x = none → H dx = none → dx ≠ x → sp (.ref x :: vs) (upd (upd H dx (.own x)) x (.ins C dx [])) (fun v H2 => v = .non ∧ Q (.ref x) H2) E) :
    wpAny (model X.prog X.w) X.A (call (.ref C) us) (EP X pins σ Q) X.xe s := by
  have hq := h (s.heap.objs.size + 1) s.heap.objs.size (I.hok.fresh (Nat.le_succ _)) (I.hok.fresh (Nat.le_refl _)) (Nat.ne_of_lt (Nat.lt_succ_self _))
  have I2 := Inv.made (C := C) I
  have r2 : Vals (V.ref (s.heap.objs.size + 1) :: vs) (Value.ref (s.heap.objs.size + 1) :: us) := .cons rfl r
  have hl : (Value.ref (s.heap.objs.size + 1) :: us).length = ps.length := by rw [← r2.length]; exact F.len _ _ _ _ hq
  have b := hb _ (Value.ref (s.heap.objs.size + 1) :: us) I2.kIn (by rw [List.append_nil]; exact hl)
  rw [List.append_nil] at b
  refine wpAny_call (make_map (f := f) I.kIn M.makes M.init (beq_iff_eq.mp M.fn) (codeAny_mono (F.run _ X.stack _ _ ⟨Value.ref (s.heap.objs.size + 1) :: us, []⟩ (Value.ref (s.heap.objs.size + 1) :: us) _ _ E (hr.make C us [])
    (I2.env0.make C us []) b r2 hq) fun r s' hq' => ?_))
  cases r with
  | error e => exact hx pins _ _ e s' I2 hq'
  | ok fl =>
    cases fl with
    | ret u =>
      obtain ⟨v, H', I3, rv, ev, q3⟩ := I2.after hq'
      subst ev
      exact ⟨rv, ⟨V.ref (s.heap.objs.size + 1), H', I3, rfl, q3⟩⟩
    | next => exact False.elim hq'
    | brk => exact False.elim hq'
    | cont => exact False.elim hq'
theorem pe_makeZ (M : Mk X.K C f) (F : FnOk X.prog X.w X.K X.mg X.base CX k f fd ps sp) (hr : Room (k + 1) X.A) (hg : Gl X x) (hm : X.mg x = some (.ref C)) (hb : Binds X.K fd ps []) (hx : ∀ σ, PassesAt CX X σ (E σ))
    (ha : PA X (e :: es) t) (hdb : (x == ("__debug__" : Str)) = false := by decide) (he : starEach (e :: es) X.env = (false, eval e X.env) :: starEach es X.env := by rfl) (hpl : (backTo pos (starEach es X.env)).any (·.1) = false := by rfl) :
    PE X (.Call (.Name x p) (e :: es) [] pos) (tMakeZ C sp E t) := by
  refine ⟨fun pins s σ H Q I h => ?_⟩
  refine wpAny_Call_Name_kw (ld_glob I hg hm ?_ hdb)
  refine PySem.W.callWith_K (h₀ := X.base) I.ok.mod.kin M.kp (thn (ha.run pos pins s σ H _ I h) fun us s1 ⟨vs, H1, I1, r, q⟩ => ⟨I1.kIn, ?_⟩) he hpl
  exact run_makeZ M F hr hb (hx σ) I1 r q
theorem pe_make0Z (M : Mk X.K C f) (F : FnOk X.prog X.w X.K X.mg X.base CX k f fd ps sp) (hr : Room (k + 1) X.A) (hg : Gl X x) (hm : X.mg x = some (.ref C)) (hb : Binds X.K fd ps []) (hx : ∀ σ, PassesAt CX X σ (E σ))
    (hdb : (x == ("__debug__" : Str)) = false := by decide) : PE X (.Call (.Name x p) [] [] pos) (tMakeZ C sp E tNil) := by
  refine ⟨fun pins s σ H Q I h => ?_⟩
  refine wpAny_Call_Name_kw (ld_glob I hg hm ?_ hdb)
  exact PySem.W.callWith_K0 I.kIn M.kp (run_makeZ (us := []) M F hr hb (hx σ) I .nil h)
/-- a statement that is never come to -/
def zNever : TS := fun _ _ _ => False
theorem ps_zNever {st : Stmt} : PS X st zNever := ⟨fun _ _ _ _ _ _ h => h.elim⟩
end
theorem lk_eq {f : Str} {v : V} {r : List (Str × V)} : List.lookup f ((f, v) :: r) = some v := by simp [List.lookup]
theorem lk_ne {f g : Str} {v : V} {r : List (Str × V)} (h : ¬ f = g) : List.lookup f ((g, v) :: r) = List.lookup f r := by
  have : (f == g) = false := by simpa using h
  simp [List.lookup, this]
theorem pu_eq {f : Str} {y v : V} {r : List (Str × V)} : putF f y ((f, v) :: r) = (f, y) :: r := if_pos rfl
theorem pu_ne {f g : Str} {y v : V} {r : List (Str × V)} (h : ¬ g = f) : putF f y ((g, v) :: r) = (g, v) :: putF f y r := if_neg h
theorem pu_nil {f : Str} {y : V} : putF f y [] = [(f, y)] := rfl

/-! ### own exceptions -/
section
open PySem.Calls
variable {X : Cx} {e : Expr} {es : List Expr} {ta : TA} {p1 p2 pos : Pos} {D : Addr} {n : Str}
/-- D.__init__(self, ..), D an own class over ValueError without an __init__ of its own -/
theorem pe_cinit {pl : Sem Bool} (hg : Gl X n) (hm : X.mg n = some (.ref D)) (hr : PySem.W.readsIn X.K D (.type "type") = true) (hs : PySem.W.specialIn X.K (.ref D) "__getattribute__" = some (some (.builtin "type.__getattribute__")))
    (hv : PySem.W.findCls X.K (.ref D) (.type "type") "__init__" = some (.val (.builtin "ValueError.__init__"))) (ha : PA X (e :: es) ta) (hdb : (n == ("__debug__" : Str)) = false := by decide)
    (hc : eval (.Call (.Attribute (.Name n p1) "__init__" p2) (e :: es) [] pos) X.env = (do
      let ov ← eval (.Name n p1) X.env
      standAt p2.atName
      let (f, first) ← holding [ov] (getMethod ov "__init__" pl)
      callWith pos f first (backTo pos (starEach (e :: es) X.env)) (backToKw pos (keywordEach [] X.env))) := by rfl)
    (he : starEach (e :: es) X.env = (false, eval e X.env) :: starEach es X.env := by rfl) (hpl : (backTo pos (starEach es X.env)).any (·.1) = false := by rfl) :
    PE X (.Call (.Attribute (.Name n p1) "__init__" p2) (e :: es) [] pos) (tVeI X.K ta) := by
  refine ⟨fun pins s σ H Q I h => ?_⟩
  refine PySem.W.methodCall_KW (ld_glob I hg hm ?_ hdb) hc
  refine PySem.W.method_cls I.kIn hs (PySem.W.cls_value I.kIn hr hv (by decide +kernel) ?_)
  show wpAny _ _ (callWith pos (Value.builtin "ValueError.__init__") [] (backTo pos (starEach (e :: es) X.env)) []) _ _ _
  refine PyProof.Rows.callWith_method1 (thn (ha.run pos pins _ σ H _ (I.tok _) h) fun us s1 ⟨vs, H1, I1, r1, a, C, ws, ev, hl, T, ea, q⟩ => ?_) he hpl
  subst ev
  cases r1 with
  | @cons _ u0 _ ur ra rw' =>
    obtain rfl : u0 = Value.ref a := ra
    have hlen : ur.length ≤ sizeLine := by
      rw [← Paired.length rw', sizeLine_eq]
      omega
    exact oinit_ok T I1 ea hlen fun s' J => ⟨.non, H1, J, rfl, q⟩
/-- raise C(..) with an __init__ of its own -/
def sRaiseO (C : Addr) (sp : Sp) (W : WX) (ta : TA) : TS := fun _ σ H => tMkO C sp [] ta σ H fun cls d H' => W cls d σ H'
theorem ps_raiseO {CX : CXT} {W : WX} {x : Str} {C fI : Addr} {k : Nat} {fd : FuncData} {ps : List Str} {sp : Sp} {p pos' : Pos} (hcalm : X.calm = true) (tk : Takes X W) (T : OexC X.K C) (iC : PySem.W.findIn X.K (.ref C) "__init__" = some (some (.ref fI))) (tI : PySem.W.typeIn X.K (.ref fI) = some (.type "function"))
    (F1 : FnOk X.prog X.w X.K X.mg X.base CX k fI fd ps sp) (hr : Room (k + 1) X.A) (hb : Binds X.K fd ps []) (hx : Passes CX X (fun _ _ _ => False)) (hg : Gl X x) (hm : X.mg x = some (.ref C)) (ha : PA X (e :: es) ta)
    (hdb : (x == ("__debug__" : Str)) = false := by decide) (he : starEach (e :: es) X.env = (false, eval e X.env) :: starEach es X.env := by rfl) (hpl : (backTo pos (starEach es X.env)).any (·.1) = false := by rfl) :
    PS X (.Raise (some (.Call (.Name x p) (e :: es) [] pos)) none pos') (sRaiseO C sp W ta) :=
  ps_raise hcalm tk (pmk_oex T iC tI F1 hr hb .nil hx hg hm ha hdb he hpl)
theorem passF {X : Cx} : Passes (L2.CX X.prog X.w) X (fun _ _ _ => False) := fun pins σ H s e s' I c => passL pins σ H s e s' I c
/-- an error of the class at S: does «except C» name it -/
theorem exm_mk {K : PySem.W.Frag} {S C : Addr} {b : Bool} (h1 : PySem.W.subIn K (.ref C) (.type "BaseException") = some true) (h2 : PySem.W.isClsIn K C = true) (h3 : PySem.W.typeIn K (.ref C) = some (.type "type")) (h4 : PySem.W.subIn K (.ref S) (.ref C) = some b) :
    PySem.W.exmOne K (.ref S) (.ref C) = some b := by
  have e1 : (PySem.W.subIn K (.ref C) (.type "BaseException") == some true) = true := by rw [h1] <;> rfl
  have e2 : ((PySem.W.clsIn K C).isSome && PySem.W.typeIn K (.ref C) == some (.type "type")) = true := by
    have h2' : (PySem.W.clsIn K C).isSome = true := h2
    rw [h2', h3] <;> rfl
  show (if (PySem.W.subIn K (.ref C) (.type "BaseException") == some true) = true then (if ((PySem.W.clsIn K C).isSome && PySem.W.typeIn K (.ref C) == some (.type "type")) = true then PySem.W.subIn K (.ref S) (.ref C) else none) else none) = some b
  rw [if_pos e1, if_pos e2]
  exact h4
def sTryOnly (K : PySem.W.Frag) (c : Value) (tb : WX → TS) (ts : Addr → Value → Option Addr → TS) (W : WX) : TS := fun D σ H => tb (wOnly K c ts W D) D σ H
/-- raise C('m'), C without an __init__ of its own -/
def sRaiseN (C : Addr) (W : WX) : TS := fun _ σ H => W (.ref C) none σ H
/-- try: .. except x as n: .. -/
def sTryAs (K : PySem.W.Frag) (c : Value) (i : Nat) (tb : WX → TS) (ts : Addr → Value → Option Addr → TS) (W : WX) : TS := fun D σ H => tb (wAs K c i ts W D) D σ H
end
def zPutF (K : PySem.W.Frag) (x : V) (f : Str) (y : V) (H : Hp) (N : Hp → Prop) : Prop := ∃ a C dx fs, x = .ref a ∧ H a = some (.ins C dx fs) ∧ Cls K C ∧ NoAttr K C f ∧ fs.length < 1000 ∧ N (upd H a (.ins C dx (putF f y fs)))
def zMade (C : Addr) (H : Hp) (sp : V → Hp → Prop) : Prop := ∀ x dx, H x = none → H dx = none → dx ≠ x → sp (.ref x) (upd (upd H dx (.own x)) x (.ins C dx []))
/-! ### parts of readings by name -/
def zB (x : V) (H : Hp) (Q : Bool → Hp → Prop) : Prop := ∃ k, x = .bl k ∧ Q k H
def zTup (xs : List V) (H : Hp) (Q : VK) : Prop := xs.length ≤ sizeLine ∧ ∀ p, H p = none → Q (.ref p) (upd H p (.tup xs))
def zLst (xs : List V) (H : Hp) (Q : VK) : Prop := xs.length ≤ sizeLine ∧ ∀ p, H p = none → Q (.ref p) (upd H p (.lst xs))
def zIf (k : Bool) (A B : Prop) : Prop := if k = true then A else B
def zDGet (x y : V) (H : Hp) (Q : VK) : Prop := ∃ a v, x = .ref a ∧ DGet H a y (some v) ∧ Q v H
def zDIn (y x : V) (H : Hp) (Q : VK) : Prop := ∃ a o, x = .ref a ∧ DGet H a y o ∧ Q (.bl o.isSome) H
def zDNotIn (y x : V) (H : Hp) (Q : VK) : Prop := ∃ a o, x = .ref a ∧ DGet H a y o ∧ Q (.bl (!o.isSome)) H
def zDPut (x y v : V) (H : Hp) (N : Hp → Prop) : Prop := ∃ a H4, x = .ref a ∧ DPut H a y v H4 ∧ N H4
def zFld (K : PySem.W.Frag) (x : V) (f : Str) (H : Hp) (Q : VK) : Prop := ∃ a C dx fs v, x = .ref a ∧ H a = some (.ins C dx fs) ∧ Cls K C ∧ NoAttr K C f ∧ fs.lookup f = some v ∧ Q v H
def zTy (K : PySem.W.Frag) (T : String) (x : V) (H : Hp) (N : Prop) : Prop := tyV K T x H ∧ N
def zGTup (K : PySem.W.Frag) (n : Nat) (t : TGs) (v : V) (σ : L2.St) (H : Hp) (Q : L2.St → Hp → Prop) : Prop := ∃ a xs, v = .ref a ∧ (SqT K H a xs ∨ SqL K H a xs) ∧ xs.length = n ∧ t xs σ H Q

section
variable {K : PySem.W.Frag} {σ : L2.St} {H : Hp} {Q : VK} {QB : Bool → Hp → Prop} {QA : List V → Hp → Prop} {N b c : L2.St → Hp → Prop} {r : VK} {ta tb tc te : TE} {t u : TT} {tt tu : TS} {tA : TA} {g : TG} {v w x y : V} {i j : Int} {n : Nat} {p q a : Addr} {xs ys : List V} {rr rr' : R2} {k : Bool} {A B : Prop}

/-! ### statements -/
theorem s_seq (h : tt ⟨tu ⟨N, r, b, c⟩, r, b, c⟩ σ H) : tSeq tt tu ⟨N, r, b, c⟩ σ H := h
theorem s_cut (Mid : L2.St → Hp → Prop) (h1 : tt ⟨Mid, r, b, c⟩ σ H) (h2 : ∀ σ' H', Mid σ' H' → tu ⟨N, r, b, c⟩ σ' H') : C8.tCut tt tu ⟨N, r, b, c⟩ σ H := ⟨Mid, h1, h2⟩
theorem s_next (h : N σ H) : tNext ⟨N, r, b, c⟩ σ H := h
theorem s_break (h : b σ H) : tBreak ⟨N, r, b, c⟩ σ H := h
theorem s_cont (h : c σ H) : tCont ⟨N, r, b, c⟩ σ H := h
theorem s_ret (h : te σ H r) : tRet te ⟨N, r, b, c⟩ σ H := h
theorem s_retN (h : r .non H) : tRetN ⟨N, r, b, c⟩ σ H := h
theorem s_drop (h : te σ H fun _ H1 => N σ H1) : tDrop te ⟨N, r, b, c⟩ σ H := h
theorem s_set (h : te σ H fun v H1 => N (σ.set n (some v)) H1) : tAsg te (gName n) ⟨N, r, b, c⟩ σ H := h
theorem s_asg (h : te σ H fun v H1 => g v σ H1 N) : tAsg te g ⟨N, r, b, c⟩ σ H := h
theorem s_if (h : t σ H fun k H1 => zIf k (tt ⟨N, r, b, c⟩ σ H1) (tu ⟨N, r, b, c⟩ σ H1)) : tIfS t tt tu ⟨N, r, b, c⟩ σ H := h
theorem s_dput {td ty tv : TE} (h : tv σ H fun v H1 => td σ H1 fun x H2 => ty σ H2 fun y H3 => zDPut x y v H3 fun H4 => N σ H4) : sDPut td ty tv ⟨N, r, b, c⟩ σ H := h
/-! ### targets -/
theorem s_gname {NN : L2.St → Hp → Prop} (h : NN (σ.set n (some v)) H) : gName n v σ H NN := h
theorem s_gsub {to ti : TE} {ts : TSet} {NN : L2.St → Hp → Prop} (h : to σ H fun o H1 => ti σ H1 fun i H2 => ts o i v H2 fun H3 => NN σ H3) : gSub to ti ts v σ H NN := h
theorem s_gtup {tg : TGs} {NN : L2.St → Hp → Prop} (hs : SqT K H a xs) (hl : xs.length = n) (h : tg xs σ H NN) : gTup K n tg (.ref a) σ H NN := ⟨a, xs, rfl, hs, hl, h⟩
theorem s_gnil {NN : L2.St → Hp → Prop} (h : NN σ H) : gNil [] σ H NN := ⟨rfl, h⟩
theorem s_gcons {t1 : TG} {t2 : TGs} {NN : L2.St → Hp → Prop} (h : t1 v σ H fun σ' H' => t2 xs σ' H' NN) : gCons t1 t2 (v :: xs) σ H NN := ⟨v, xs, rfl, h⟩
/-! ### expressions -/
theorem s_var (h : σ[n]? = some (some v)) (q : Q v H) : tVar n σ H Q := ⟨v, h, q⟩
theorem s_c (q : Q v H) : tC v σ H Q := q
theorem s_op (h : ta σ H fun x H1 => tb σ H1 fun y H2 => rr x y H2 Q) : tOp rr ta tb σ H Q := h
theorem s_un {ru : V → Hp → VK → Prop} (h : ta σ H fun x H1 => ru x H1 Q) : tUn ru ta σ H Q := h
theorem s_cb {rc : List V → Hp → VK → Prop} (h : tA σ H fun vs H1 => rc vs H1 Q) : tCB rc tA σ H Q := h
theorem s_nil (h : QA [] H) : tNil σ H QA := h
theorem s_cons {tr : TA} (h : ta σ H fun x H1 => tr σ H1 fun xs H2 => QA (x :: xs) H2) : tCons ta tr σ H QA := h
theorem s_call {sp : Sp} {E : XK} (h : tA σ H fun vs H1 => sp vs H1 Q E) : tCall sp [] E tA σ H Q := by
  show tA σ H fun vs H1 => sp (vs ++ []) H1 Q E
  simp only [List.append_nil]
  exact h
theorem s_tup (h : tA σ H fun xs H1 => zTup xs H1 Q) : tTup tA σ H Q := h
theorem s_lst (h : tA σ H fun xs H1 => zLst xs H1 Q) : tLst tA σ H Q := h
theorem s_ztup (h : Nat.ble xs.length sizeLine = true) (h2 : ∀ p, H p = none → Q (.ref p) (upd H p (.tup xs))) : zTup xs H Q := ⟨Nat.le_of_ble_eq_true h, h2⟩
theorem s_zlst (h : Nat.ble xs.length sizeLine = true) (h2 : ∀ p, H p = none → Q (.ref p) (upd H p (.lst xs))) : zLst xs H Q := ⟨Nat.le_of_ble_eq_true h, h2⟩
theorem s_test (h : te σ H fun x H1 => zB x H1 QB) : tTest te σ H QB := h
theorem s_B (h : te σ H fun x H1 => zB x H1 QB) : tB te σ H QB := h
theorem s_zB (h : QB k H) : zB (.bl k) H QB := ⟨k, rfl, h⟩
theorem s_and (h : t σ H fun k H1 => zIf k (u σ H1 QB) (QB false H1)) : tAnd t u σ H QB := h
theorem s_or (h : t σ H fun k H1 => zIf k (QB true H1) (u σ H1 QB)) : tOr t u σ H QB := h
theorem s_not (h : t σ H fun k H1 => QB (!k) H1) : tNot t σ H QB := h
theorem s_chain (h : ta σ H fun x H1 => tb σ H1 fun y H2 => rr x y H2 fun z H3 => zB z H3 fun k H3 => zIf k (tc σ H3 fun w H4 => rr' y w H4 Q) (Q (.bl false) H3)) : tChain rr rr' ta tb tc σ H Q := h
theorem s_ifE (h : t σ H fun k H1 => zIf k (ta σ H1 Q) (tb σ H1 Q)) : tIf t ta tb σ H Q := h
theorem s_bm {T : String} {rm : V → List V → Hp → VK → Prop} (h : ta σ H fun x H1 => zTy K T x H1 (tA σ H1 fun xs H2 => rm x xs H2 Q)) : tBM K T rm ta tA σ H Q := h
theorem s_bm0 {T : String} {rm : V → List V → Hp → VK → Prop} (h : ta σ H fun x H1 => zTy K T x H1 (rm x [] H1 Q)) : tBM0 K T rm ta σ H Q := h
theorem s_fld {f : Str} (h : ta σ H fun x H1 => zFld K x f H1 Q) : tFld K ta f σ H Q := h
theorem s_meth {C : Addr} {m : Str} {sp : Sp} {W : WX} (h : ta σ H fun x H1 => zSelf C m x H1 (tA σ H1 fun vs H2 => sp (x :: vs) H2 Q (WE W σ))) : tMethZ C m sp (WE W) ta tA σ H Q := h
theorem s_zself {C dx : Addr} {m : Str} {fs : List (Str × V)} {N1 : Prop} (h1 : H p = some (.ins C dx fs)) (h2 : fs.lookup m = none) (h : N1) : zSelf C m (.ref p) H N1 := ⟨p, dx, fs, rfl, h1, h2, h⟩
theorem s_make {C : Addr} {sp : Sp} {W : WX} (h : tA σ H fun vs H1 => zMade C H1 fun x H2 => sp (x :: vs) H2 (fun v H2 => v = .non ∧ Q x H2) (WE W σ)) : tMakeZ C sp (WE W) tA σ H Q := h
theorem s_fldset {f : Str} (h : tb σ H fun y H1 => ta σ H1 fun x H2 => zPutF K x f y H2 fun H3 => N σ H3) : sFld K ta tb f ⟨N, r, b, c⟩ σ H := h
theorem s_zputF {C dx : Addr} {fs : List (Str × V)} {f : Str} {N1 : Hp → Prop} (h1 : H p = some (.ins C dx fs)) (hc : Cls K C) (hn : NoAttr K C f) (hl : fs.length < 1000) (h : N1 (upd H p (.ins C dx (putF f y fs)))) : zPutF K (.ref p) f y H N1 := ⟨p, C, dx, fs, rfl, h1, hc, hn, hl, h⟩
def zRev (K : PySem.W.Frag) (x : V) (H : Hp) (Q : VK) : Prop := ∃ a xs, x = .ref a ∧ SqL K H a xs ∧ ∀ p, H p = none → Q (.ref p) (upd H p (.lst xs.reverse))
theorem s_rev (h : ta σ H fun x H1 => zRev K x H1 Q) : tRevL K ta σ H Q := h
theorem s_zrev (h1 : SqL K H p xs) (h : ∀ a, H a = none → Q (.ref a) (upd H a (.lst xs.reverse))) : zRev K (.ref p) H Q := ⟨p, xs, rfl, h1, h⟩
theorem s_pop {z : V} (h1 : H p = some (.lst xs)) (h2 : xs[xs.length - 1]? = some z) (h : Q z (upd H p (.lst xs.dropLast))) : rPop (.ref p) [] H Q := ⟨p, xs, z, rfl, rfl, h1, h2, h⟩
theorem s_reverse (h1 : H p = some (.lst xs)) (h : Q .non (upd H p (.lst xs.reverse))) : rReverse (.ref p) [] H Q := ⟨p, xs, rfl, rfl, h1, h⟩
def zMkO (C : Addr) (sp : Sp) (vs : List V) (H1 : Hp) (Q : XK) : Prop := vs.length ≤ 1000 ∧ ∀ a, H1 a = none → sp (.ref a :: (vs ++ [])) (upd H1 a (exo a C none))
  (fun v H2 => v = .non ∧ ∃ (d : Addr) (fs : List (Str × V)), H2 a = some (exo a C (some d)) ∧ H2 d = some (exd d fs) ∧ H1 d = none ∧ Q (.ref C) (some d) (upd (del H2 a) d (.xd fs))) (fun _ _ _ => False)
theorem s_raiseO {C : Addr} {sp : Sp} {W : WX} (h : tA σ H fun vs H1 => zMkO C sp vs H1 fun cls d H' => W cls d σ H') : sRaiseO C sp W tA ⟨N, r, b, c⟩ σ H := h
theorem s_tryAs {i : Nat} {cc : Value} {tbw : WX → TS} {ts : Addr → Value → Option Addr → TS} {W : WX} (h : tbw (wAs K cc i ts W ⟨N, r, b, c⟩) ⟨N, r, b, c⟩ σ H) : sTryAs K cc i tbw ts W ⟨N, r, b, c⟩ σ H := h
theorem s_raiseN {C : Addr} {W : WX} (h : W (.ref C) none σ H) : sRaiseN C W ⟨N, r, b, c⟩ σ H := h
theorem s_tryOnly {cc : Value} {tbw : WX → TS} {ts : Addr → Value → Option Addr → TS} {W : WX} (h : tbw (wOnly K cc ts W ⟨N, r, b, c⟩) ⟨N, r, b, c⟩ σ H) : sTryOnly K cc tbw ts W ⟨N, r, b, c⟩ σ H := h
theorem s_all {bs : List Bool} (h1 : SqL K H p (bs.map V.bl)) (h : Q (.bl (bs.all id)) H) : rAll K [.ref p] H Q := ⟨p, bs, rfl, h1, h⟩
def zVeI (K : PySem.W.Frag) (vs : List V) (H1 : Hp) (Q : VK) : Prop := ∃ (a C : Addr) (ws : List V), vs = .ref a :: ws ∧ ws.length ≤ 1000 ∧ OexC K C ∧ H1 a = some (exo a C none) ∧ Q .non H1
theorem s_vei (h : tA σ H fun vs H1 => zVeI K vs H1 Q) : tVeI K tA σ H Q := h
def zOst (K : PySem.W.Frag) (f : Str) (x y : V) (H2 : Hp) (NN : Hp → Prop) : Prop := ∃ a C : Addr, x = .ref a ∧ OexC K C ∧ PySem.W.findIn K (.ref C) f = some none ∧
  ((H2 a = some (exo a C none) ∧ ∀ dx, H2 dx = none → dx ≠ a → NN (upd (upd H2 dx (exd dx [(f, y)])) a (exo a C (some dx)))) ∨
    ∃ (dx : Addr) (fs : List (Str × V)), H2 a = some (exo a C (some dx)) ∧ H2 dx = some (exd dx fs) ∧ fs.length ≤ 900 ∧ NN (upd H2 dx (exd dx ((f, y) :: fs))))
theorem s_ost {f : Str} (h : tb σ H fun y H1 => ta σ H1 fun x H2 => zOst K f x y H2 fun H3 => N σ H3) : tOst K f ta tb ⟨N, r, b, c⟩ σ H := h
def zXf (a : Addr) (cls : Value) (d : Option Addr) (C : Addr) (f : Str) (x : V) (H1 : Hp) (Q : VK) : Prop := x = .ref a ∧ cls = .ref C ∧ ∃ (dd : Addr) (fs : List (Str × V)) (v : V), d = some dd ∧ H1 dd = some (.xd fs) ∧ fs.lookup f = some v ∧ Q v H1
theorem s_xf {cls : Value} {d : Option Addr} {C : Addr} {f : Str} (h : te σ H fun x H1 => zXf a cls d C f x H1 Q) : tXf a cls d C f te σ H Q := h
theorem s_rep (h1 : H p = some (.lst xs)) (h2 : -(2 ^ 63) ≤ i ∧ i < 2 ^ 63) (h3 : xs.length * i.toNat ≤ sizeLine) (h : ∀ a, H a = none → Q (.ref a) (upd H a (.lst (List.replicate i.toNat xs).flatten))) : rRep (.ref p) (.int i) H Q := ⟨p, i, xs, rfl, rfl, h1, h2.1, h2.2, h3, h⟩
theorem s_dget2 {td ty tx : TE} (h : td σ H fun x H1 => ∃ a, x = .ref a ∧ IsD H1 a ∧ ty σ H1 fun y H2 => tx σ H2 fun z H3 => ∃ o, DGet H3 a y o ∧ Q (o.getD z) H3) : tDGet2 td ty tx σ H Q := h
theorem s_dget {td ty : TE} (h : td σ H fun x H1 => ty σ H1 fun y H2 => zDGet x y H2 Q) : tDGet td ty σ H Q := h
theorem s_din {td ty : TE} (h : ty σ H fun y H1 => td σ H1 fun x H2 => zDIn y x H2 Q) : tDIn ty td σ H Q := h
theorem s_dnotin {td ty : TE} (h : ty σ H fun y H1 => td σ H1 fun x H2 => zDNotIn y x H2 Q) : tDNotIn ty td σ H Q := h
theorem s_dnew (h : ∀ p, H p = none → Q (.ref p) (upd H p (.dK []))) : tDNewK σ H Q := h
theorem s_disp {trs : List (TE × TE)} (h : ∀ p, H p = none → tPairs trs σ (upd H p (.dK [])) fun ps H2 => H2 p = some (.dK []) ∧ ∃ kvs : List (Key × V), ps = kvs.map (fun kv => (kV kv.1, kv.2)) ∧ kvs.length ≤ 15 ∧ Q (.ref p) (upd H2 p (.dK (mergeK [] kvs)))) : tDisp trs σ H Q := h
theorem s_pnil {QP : List (V × V) → Hp → Prop} (h : QP [] H) : tPairs [] σ H QP := h
theorem s_pcons {tk tv : TE} {trs : List (TE × TE)} {QP : List (V × V) → Hp → Prop} (h : tk σ H fun x H1 => tv σ H1 fun y H2 => tPairs trs σ H2 fun ps H3 => QP ((x, y) :: ps) H3) : tPairs ((tk, tv) :: trs) σ H QP := h
theorem s_andV (h : ta σ H fun x H1 => zB x H1 fun k H1 => zIf k (tb σ H1 Q) (Q (.bl false) H1)) : tAndV ta tb σ H Q := h
theorem s_orV (h : ta σ H fun x H1 => zB x H1 fun k H1 => zIf k (Q (.bl true) H1) (tb σ H1 Q)) : tOrV ta tb σ H Q := h
theorem s_notV (h : ta σ H fun x H1 => zB x H1 fun k H1 => Q (.bl (!k)) H1) : tNotV ta σ H Q := h
/-! ### by values -/
theorem s_rI0 {gg : Int → Int → V} (h : Q (gg i j) H) : rI0 gg (.int i) (.int j) H Q := ⟨i, j, rfl, rfl, h⟩
theorem s_rU {gg : Int → V} (h : Q (gg i) H) : rU gg (.int i) H Q := ⟨i, rfl, h⟩
theorem s_fdv (h0 : j ≠ 0 ∧ j.natAbs.log2 < 9000) (h : Q (.int (i.fdiv j)) H) : rFdv (.int i) (.int j) H Q := ⟨i, j, rfl, rfl, h0, h⟩
theorem s_mod (h0 : j ≠ 0) (h : Q (.int (i.fmod j)) H) : rMod (.int i) (.int j) H Q := ⟨i, j, rfl, rfl, h0, h⟩
theorem s_fdvp (h0 : 0 < j ∧ j < 2 ^ 64) (h : Q (.int (i / j)) H) : rFdv (.int i) (.int j) H Q := ⟨i, j, rfl, rfl, ⟨by omega, Nat.lt_of_lt_of_le (PySem.Flt.log2_lt_of (k := 64) (by decide) (by omega)) (by decide)⟩, by
  show Q (.int (i.fdiv j)) H
  rw [Int.fdiv_eq_ediv_of_nonneg i (by omega)]; exact h⟩
theorem s_modp (h0 : 0 < j) (h : Q (.int (i % j)) H) : rMod (.int i) (.int j) H Q := ⟨i, j, rfl, rfl, by omega, by
  show Q (.int (i.fmod j)) H
  rw [Int.fmod_eq_emod_of_nonneg i (by omega)]; exact h⟩
theorem s_mulp (h0 : (-18446744073709551616 < i ∧ i < 18446744073709551616) ∨ (-18446744073709551616 < j ∧ j < 18446744073709551616)) (h : Q (.int (i * j)) H) : rMul (.int i) (.int j) H Q := ⟨i, j, rfl, rfl, .inl h0, h⟩
theorem s_mul (h0 : CMul i j ∨ CMulW i j) (h : Q (.int (i * j)) H) : rMul (.int i) (.int j) H Q := ⟨i, j, rfl, rfl, h0, h⟩
theorem s_add_i (h : Q (.int (i + j)) H) : rAddU K (.int i) (.int j) H Q := .inl ⟨i, j, rfl, rfl, h⟩
theorem s_add_s {z w : Str} (h0 : z.length + w.length ≤ sizeLine) (h : Q (.str (z ++ w)) H) : rAddU K (.str z) (.str w) H Q := .inr (.inl ⟨z, w, rfl, rfl, h0, h⟩)
theorem s_add_l (h1 : H p = some (.lst xs)) (h2 : H q = some (.lst ys)) (h0 : xs.length + ys.length ≤ sizeLine) (h : ∀ a, H a = none → Q (.ref a) (upd H a (.lst (xs ++ ys)))) : rAddU K (.ref p) (.ref q) H Q := .inr (.inr (.inl ⟨p, q, xs, ys, rfl, rfl, h1, h2, h0, h⟩))
theorem s_add_t (h1 : SqT K H p xs) (h2 : SqT K H q ys) (hx : xs ≠ []) (hy : ys ≠ []) (h0 : xs.length + ys.length ≤ sizeLine) (h : ∀ a, H a = none → Q (.ref a) (upd H a (.tup (xs ++ ys)))) : rAddU K (.ref p) (.ref q) H Q := .inr (.inr (.inr ⟨p, q, xs, ys, rfl, rfl, h1, h2, h0, fun e => absurd e hx, fun _ e => absurd e hy, fun _ _ => h⟩))
theorem s_add_tl (h1 : SqT K H p []) (h2 : SqT K H q ys) (h0 : ys.length ≤ sizeLine) (h : Q (.ref q) H) : rAddU K (.ref p) (.ref q) H Q := .inr (.inr (.inr ⟨p, q, [], ys, rfl, rfl, h1, h2, by simpa using h0, fun _ => h, fun e => absurd rfl e, fun e => absurd rfl e⟩))
theorem s_add_tr (h1 : SqT K H p xs) (h2 : SqT K H q []) (hx : xs ≠ []) (h0 : xs.length ≤ sizeLine) (h : Q (.ref p) H) : rAddU K (.ref p) (.ref q) H Q := .inr (.inr (.inr ⟨p, q, xs, [], rfl, rfl, h1, h2, by simpa using h0, fun e => absurd e hx, fun _ _ => h, fun _ e => absurd rfl e⟩))
theorem s_eq_i (h : Q (.bl (decide (i = j))) H) : rEqU K (.int i) (.int j) H Q := .inl ⟨rfl, by rw [show decide (V.int i = V.int j) = decide (i = j) by simp]; exact h⟩
theorem s_ne_i (h : Q (.bl (!decide (i = j))) H) : rNeU K (.int i) (.int j) H Q := .inl ⟨rfl, by rw [show decide (V.int i = V.int j) = decide (i = j) by simp]; exact h⟩
theorem s_eq_s {z w : Str} (h : Q (.bl (decide (z = w))) H) : rEqU K (.str z) (.str w) H Q := .inl ⟨rfl, by rw [show decide (V.str z = V.str w) = decide (z = w) by simp]; exact h⟩
theorem s_ne_s {z w : Str} (h : Q (.bl (!decide (z = w))) H) : rNeU K (.str z) (.str w) H Q := .inl ⟨rfl, by rw [show decide (V.str z = V.str w) = decide (z = w) by simp]; exact h⟩
theorem s_eq_v (h0 : scal x y = true) (h : Q (.bl (decide (x = y))) H) : rEqU K x y H Q := .inl ⟨h0, h⟩
theorem s_ne_v (h0 : scal x y = true) (h : Q (.bl (!decide (x = y))) H) : rNeU K x y H Q := .inl ⟨h0, h⟩
theorem s_eq_d {d e : PyData} (h1 : Dp K H x d) (h2 : Dp K H y e) (h3 : SeqAt.shaped d = true) (h4 : SeqAt.shaped e = true) (h : Q (.bl (PyData.eqv d e)) H) : rEqU K x y H Q := .inr (.inl ⟨d, e, h1, h2, h3, h4, h⟩)
theorem s_ne_d {d e : PyData} (h1 : Dp K H x d) (h2 : Dp K H y e) (h3 : SeqAt.shaped d = true) (h4 : SeqAt.shaped e = true) (h : Q (.bl (!PyData.eqv d e)) H) : rNeU K x y H Q := .inr (.inl ⟨d, e, h1, h2, h3, h4, h⟩)
theorem s_eq_len (h1 : H p = some (.lst xs)) (h2 : H q = some (.lst ys)) (hn : xs.length ≠ ys.length) (h : Q (.bl false) H) : rEqU K (.ref p) (.ref q) H Q := .inr (.inr ⟨p, q, xs, ys, rfl, rfl, h1, h2, hn, h⟩)
theorem s_ne_len (h1 : H p = some (.lst xs)) (h2 : H q = some (.lst ys)) (hn : xs.length ≠ ys.length) (h : Q (.bl true) H) : rNeU K (.ref p) (.ref q) H Q := .inr (.inr ⟨p, q, xs, ys, rfl, rfl, h1, h2, hn, h⟩)
theorem s_ix_l (h1 : SqL K H p xs) (h2 : atI xs i = some v) (h : Q v H) : rIx K (.ref p) (.int i) H Q := .inl ⟨p, xs, i, v, rfl, rfl, h1, h2, h⟩
theorem s_ix_t (h1 : SqT K H p xs) (h2 : atI xs i = some v) (h : Q v H) : rIx K (.ref p) (.int i) H Q := .inr (.inl ⟨p, xs, i, v, rfl, rfl, h1, h2, h⟩)
theorem s_ix_s {z : Str} {cc : Nat} (h1 : z.length ≤ sizeLine) (h2 : atI z.cps.toList i = some cc) (h : Q (.str ⟨#[cc]⟩) H) : rIx K (.str z) (.int i) H Q := .inr (.inr ⟨z, i, cc, rfl, rfl, h1, h2, h⟩)
theorem s_setL {N1 : Hp → Prop} (h1 : H p = some (.lst xs)) (h2 : ixN xs.length i = some n) (h : N1 (upd H p (.lst (xs.set n v)))) : rSetL (.ref p) (.int i) v H N1 := ⟨p, xs, i, n, rfl, rfl, h1, h2, h⟩
theorem s_len_l (h1 : SqL K H p xs) (h : Q (.int xs.length) H) : rLen K [.ref p] H Q := ⟨_, xs.length, rfl, .inl ⟨xs, h1, rfl⟩, h⟩
theorem s_len_t (h1 : SqT K H p xs) (h : Q (.int xs.length) H) : rLen K [.ref p] H Q := ⟨_, xs.length, rfl, .inr ⟨xs, h1, rfl⟩, h⟩
theorem s_len_s {z : Str} (h1 : z.length ≤ sizeLine) (h : Q (.int z.length) H) : rLen K [.str z] H Q := ⟨_, z.length, rfl, ⟨h1, rfl⟩, h⟩
theorem s_min2 (h : Q (.int (if j < i then j else i)) H) : rMin2 [.int i, .int j] H Q := ⟨i, j, rfl, h⟩
theorem s_max2 (h : Q (.int (if j > i then j else i)) H) : rMax2 [.int i, .int j] H Q := ⟨i, j, rfl, h⟩
theorem s_listof_l (h1 : SqL K H p xs) (h : ∀ l, H l = none → Q (.ref l) (upd H l (.lst xs))) : rListOf K [.ref p] H Q := ⟨p, xs, rfl, .inl h1, h⟩
theorem s_listof_t (h1 : SqT K H p xs) (h : ∀ l, H l = none → Q (.ref l) (upd H l (.lst xs))) : rListOf K [.ref p] H Q := ⟨p, xs, rfl, .inr h1, h⟩
theorem s_tupof_l (h1 : SqL K H p xs) (h : ∀ l, H l = none → Q (.ref l) (upd H l (.tup xs))) : rTupOf K [.ref p] H Q := ⟨p, xs, rfl, .inl ⟨h1, h⟩⟩
theorem s_tupof_t (h1 : SqT K H p xs) (h : Q (.ref p) H) : rTupOf K [.ref p] H Q := ⟨p, xs, rfl, .inr ⟨h1, h⟩⟩
theorem s_int1 (h : Q (.int i) H) : rInt1 [.int i] H Q := .inl ⟨i, rfl, h⟩
theorem s_int1b (h : Q (.int (if k then 1 else 0)) H) : rInt1 [.bl k] H Q := .inr ⟨k, rfl, h⟩
theorem s_abs (h : Q (.int (if i < 0 then -i else i)) H) : rAbs [.int i] H Q := ⟨i, rfl, h⟩
theorem s_strI (h0 : i.natAbs.log2 < 1920) (h : Q (.str (toString i)) H) : rStrI [.int i] H Q := ⟨i, rfl, h0, h⟩
theorem s_isi {cc : V} {ty uu : Value} {bb : Bool} (h1 : ClsV cc uu) (h2 : TyX K H x ty) (h3 : PySem.W.kitOne K ty uu = some bb) (h : Q (.bl bb) H) : rIsi2 K [x, cc] H Q := .inl ⟨x, cc, ty, uu, bb, rfl, h1, h2, h3, h⟩
theorem s_isN_i (h : Q (.bl false) H) : rIsNz (.int i) .non H Q := ⟨rfl, by rw [decide_eq_false (by intro z; cases z)]; exact h⟩
theorem s_isN_r (h : Q (.bl false) H) : rIsNz (.ref p) .non H Q := ⟨rfl, by rw [decide_eq_false (by intro z; cases z)]; exact h⟩
theorem s_isN_s {z : Str} (h : Q (.bl false) H) : rIsNz (.str z) .non H Q := ⟨rfl, by rw [decide_eq_false (by intro z; cases z)]; exact h⟩
theorem s_isN_n (h : Q (.bl true) H) : rIsNz .non .non H Q := ⟨rfl, by rw [decide_eq_true rfl]; exact h⟩
theorem s_notN_i (h : Q (.bl true) H) : rNotNz (.int i) .non H Q := ⟨rfl, by rw [decide_eq_false (by intro z; cases z)]; exact h⟩
theorem s_notN_r (h : Q (.bl true) H) : rNotNz (.ref p) .non H Q := ⟨rfl, by rw [decide_eq_false (by intro z; cases z)]; exact h⟩
theorem s_notN_s {z : Str} (h : Q (.bl true) H) : rNotNz (.str z) .non H Q := ⟨rfl, by rw [decide_eq_false (by intro z; cases z)]; exact h⟩
theorem s_notN_n (h : Q (.bl false) H) : rNotNz .non .non H Q := ⟨rfl, by rw [decide_eq_true rfl]; exact h⟩
theorem s_slL {te' : TE} {tl th : TO} {rs : V → Option Int → Option Int → Hp → VK → Prop} (h : te' σ H fun x H1 => tl σ H1 fun l H2 => th σ H2 fun u H3 => rs x l u H3 Q) : tSl rs te' tl th σ H Q := h
theorem s_nopart {QO : Option Int → Hp → Prop} (h : QO none H) : tNoPart σ H QO := h
def zPart (x : V) (H : Hp) (QO : Option Int → Hp → Prop) : Prop := ∃ i, x = .int i ∧ QO (some i) H
theorem s_part {QO : Option Int → Hp → Prop} (h : te σ H fun x H1 => zPart x H1 QO) : tPart te σ H QO := h
theorem s_zpart {QO : Option Int → Hp → Prop} (h : QO (some i) H) : zPart (.int i) H QO := ⟨i, rfl, h⟩
theorem s_cutL {lo hi : Option Int} (h1 : SqL K H a xs) (h : ∀ p, H p = none → Q (.ref p) (upd H p (.lst (cutV xs lo hi)))) : rSlU K (.ref a) lo hi H Q := .inl ⟨a, xs, rfl, h1, h⟩
theorem s_isN (h : Q (.bl (decide (x = .non))) H) : rIsNz x .non H Q := ⟨rfl, h⟩
theorem s_notN (h : Q (.bl (!decide (x = .non))) H) : rNotNz x .non H Q := ⟨rfl, h⟩
theorem s_gun_t {tg : TGs} {NN : L2.St → Hp → Prop} (hs : SqT K H a xs) (hl : xs.length = n) (h : tg xs σ H NN) : gUn K n tg (.ref a) σ H NN := .inl ⟨a, xs, rfl, hs, hl, h⟩
theorem s_gun_l {tg : TGs} {NN : L2.St → Hp → Prop} (hs : SqL K H a xs) (hl : xs.length = n) (h : tg xs σ H NN) : gUn K n tg (.ref a) σ H NN := .inr ⟨a, xs, rfl, hs, hl, h⟩
theorem s_p18 (h : Q (.int 1000000000000000000) H) : rI CPow (fun i j => .int (i ^ j.toNat)) (.int 10) (.int 18) H Q := ⟨10, 18, rfl, rfl, by unfold CPow; decide, h⟩
theorem s_callS {W : WX} {sp : Sp} (h : tA σ H fun vs H1 => sp vs H1 Q (WE W σ)) : tCallS sp (WE W) tA σ H Q := h
theorem s_in_l (h1 : SqL K H p xs) (h2 : flatV x = true) (h3 : xs.all flatV = true) (h : Q (.bl (inV x xs)) H) : rIn K false x (.ref p) H Q := ⟨p, xs, rfl, .inl h1, h2, h3, h⟩
theorem s_in_t (h1 : SqT K H p xs) (h2 : flatV x = true) (h3 : xs.all flatV = true) (h : Q (.bl (inV x xs)) H) : rIn K false x (.ref p) H Q := ⟨p, xs, rfl, .inr h1, h2, h3, h⟩
theorem s_nin_l (h1 : SqL K H p xs) (h2 : flatV x = true) (h3 : xs.all flatV = true) (h : Q (.bl (!inV x xs)) H) : rIn K true x (.ref p) H Q := ⟨p, xs, rfl, .inl h1, h2, h3, h⟩
theorem s_nin_t (h1 : SqT K H p xs) (h2 : flatV x = true) (h3 : xs.all flatV = true) (h : Q (.bl (!inV x xs)) H) : rIn K true x (.ref p) H Q := ⟨p, xs, rfl, .inr h1, h2, h3, h⟩
theorem s_append (h1 : H p = some (.lst xs)) (h2 : xs.length < sizeLine) (h : Q .non (upd H p (.lst (xs ++ [v])))) : rAppend (.ref p) [v] H Q := ⟨p, xs, v, rfl, rfl, h1, h2, h⟩
theorem s_zTyL {N0 : Prop} (h1 : H p = some (.lst xs)) (h : N0) : zTy K "list" (.ref p) H N0 := ⟨.inl ⟨rfl, xs, .inl (.inl h1)⟩, h⟩
theorem s_zTyS {N0 : Prop} {z : Str} (h : N0) : zTy K "str" (.str z) H N0 := ⟨rfl, h⟩
theorem s_zTyL' {N0 : Prop} (h1 : SqL K H p xs) (h : N0) : zTy K "list" (.ref p) H N0 := ⟨.inl ⟨rfl, xs, h1⟩, h⟩
theorem s_join_l {z : Str} {ys : List Str} (h1 : SqL K H p (ys.map V.str)) (h2 : (ys.map (·.length)).sum + ys.length * z.length ≤ 16777216) (h : Q (.str (Txt.join z ys)) H) : rJoin K (.str z) [.ref p] H Q := ⟨z, p, ys, rfl, rfl, .inl h1, h2, h⟩
theorem s_index {y z : V} {j : Nat} (h1 : SqL K H p xs) (h2 : flatV y = true) (h3 : xs.all flatV = true) (h4 : xs[j]? = some z) (h5 : eqV z y = true) (h6 : ∀ (m : Nat) (z' : V), m < j → xs[m]? = some z' → eqV z' y = false) (h : Q (.int (j : Nat)) H) : rIndex K (.ref p) [y] H Q := ⟨p, xs, y, j, z, rfl, rfl, h1, h2, h3, h4, h5, h6, h⟩
theorem s_slS {z : Str} {lo hi : Option Int} (h1 : z.length ≤ sizeLine) (h : Q (.str (cutS z lo hi)) H) : rSlS (.str z) lo hi H Q := ⟨z, rfl, h1, h⟩
theorem s_zDGet_s {z : Str} {kvs : List (Key × V)} (h1 : Rd H p (.dK kvs)) (h2 : valV kvs (Sum.inr z : Key) = some v) (h : Q v H) : zDGet (.ref p) (.str z) H Q := ⟨p, v, rfl, .inl ⟨kvs, Sum.inr z, h1, rfl, h2.symm⟩, h⟩
theorem s_zDGet_i {kvs : List (Key × V)} (h1 : Rd H p (.dK kvs)) (h2 : valV kvs (Sum.inl i : Key) = some v) (h : Q v H) : zDGet (.ref p) (.int i) H Q := ⟨p, v, rfl, .inl ⟨kvs, Sum.inl i, h1, rfl, h2.symm⟩, h⟩
theorem s_zDIn_s {z : Str} {kvs : List (Key × V)} (h1 : Rd H p (.dK kvs)) (h : Q (.bl (valV kvs (Sum.inr z : Key)).isSome) H) : zDIn (.str z) (.ref p) H Q := ⟨p, _, rfl, .inl ⟨kvs, Sum.inr z, h1, rfl, rfl⟩, h⟩
theorem s_zDIn_i {kvs : List (Key × V)} (h1 : Rd H p (.dK kvs)) (h : Q (.bl (valV kvs (Sum.inl i : Key)).isSome) H) : zDIn (.int i) (.ref p) H Q := ⟨p, _, rfl, .inl ⟨kvs, Sum.inl i, h1, rfl, rfl⟩, h⟩
theorem s_zDNotIn_s {z : Str} {kvs : List (Key × V)} (h1 : Rd H p (.dK kvs)) (h : Q (.bl (!(valV kvs (Sum.inr z : Key)).isSome)) H) : zDNotIn (.str z) (.ref p) H Q := ⟨p, _, rfl, .inl ⟨kvs, Sum.inr z, h1, rfl, rfl⟩, h⟩
theorem s_zDNotIn_i {kvs : List (Key × V)} (h1 : Rd H p (.dK kvs)) (h : Q (.bl (!(valV kvs (Sum.inl i : Key)).isSome)) H) : zDNotIn (.int i) (.ref p) H Q := ⟨p, _, rfl, .inl ⟨kvs, Sum.inl i, h1, rfl, rfl⟩, h⟩
theorem s_zDPut_s {z : Str} {kvs : List (Key × V)} {N1 : Hp → Prop} (h1 : H p = some (.dK kvs)) (h2 : kvs.length < sizeLine) (h : N1 (upd H p (.dK (putK kvs (Sum.inr z : Key) v)))) : zDPut (.ref p) (.str z) v H N1 := ⟨p, _, rfl, .inl ⟨kvs, Sum.inr z, h1, rfl, h2, rfl⟩, h⟩
theorem s_zDPut_i {kvs : List (Key × V)} {N1 : Hp → Prop} (h1 : H p = some (.dK kvs)) (h2 : kvs.length < sizeLine) (h : N1 (upd H p (.dK (putK kvs (Sum.inl i : Key) v)))) : zDPut (.ref p) (.int i) v H N1 := ⟨p, _, rfl, .inl ⟨kvs, Sum.inl i, h1, rfl, h2, rfl⟩, h⟩
theorem s_zFld {C dx : Addr} {fs : List (Str × V)} {f : Str} (h1 : H p = some (.ins C dx fs)) (hc : Cls K C) (hn : NoAttr K C f) (hl : fs.lookup f = some v) (h : Q v H) : zFld K (.ref p) f H Q := ⟨p, C, dx, fs, v, rfl, h1, hc, hn, hl, h⟩
/-! ### ways -/
theorem s_ift (h : A) : zIf true A B := by unfold zIf; rw [if_pos rfl]; exact h
theorem s_iff (h : B) : zIf false A B := by unfold zIf; rw [if_neg Bool.false_ne_true]; exact h
theorem s_ifnn {D : Prop} [Decidable D] (h1 : ¬ D → A) (h2 : D → B) : zIf (!decide D) A B := by
  by_cases h : D
  · rw [decide_eq_true h]; exact s_iff (h2 h)
  · rw [decide_eq_false h]; exact s_ift (h1 h)
theorem s_nt (h : B) : zIf (!true) A B := s_iff h
theorem s_nf (h : A) : zIf (!false) A B := s_ift h
theorem s_ifd {D : Prop} [Decidable D] (h1 : D → A) (h2 : ¬ D → B) : zIf (decide D) A B := by
  by_cases h : D
  · rw [decide_eq_true h]; exact s_ift (h1 h)
  · rw [decide_eq_false h]; exact s_iff (h2 h)
theorem s_ifn {D : Prop} [Decidable D] (h1 : ¬ D → A) (h2 : D → B) : zIf (!decide D) A B := by
  by_cases h : D
  · rw [decide_eq_true h]; exact s_iff (h2 h)
  · rw [decide_eq_false h]; exact s_ift (h1 h)
theorem s_ifdt {D : Prop} [Decidable D] (h : D) (h1 : A) : zIf (decide D) A B := by rw [decide_eq_true h]; exact s_ift h1
theorem s_ifdf {D : Prop} [Decidable D] (h : ¬ D) (h1 : B) : zIf (decide D) A B := by rw [decide_eq_false h]; exact s_iff h1
theorem s_nft {D : Prop} [Decidable D] (h : D) (h1 : B) : zIf (!decide D) A B := by rw [decide_eq_true h]; exact s_iff h1
theorem s_nff {D : Prop} [Decidable D] (h : ¬ D) (h1 : A) : zIf (!decide D) A B := by rw [decide_eq_false h]; exact s_ift h1
theorem s_ifk (h1 : k = true → A) (h2 : k = false → B) : zIf k A B := by
  cases k with
  | true => exact s_ift (h1 rfl)
  | false => exact s_iff (h2 rfl)
theorem s_ifkt (h : k = true) (h1 : A) : zIf k A B := by subst h; exact s_ift h1
theorem s_ifkf (h : k = false) (h1 : B) : zIf k A B := by subst h; exact s_iff h1
/-! ### loops -/
/-- a loop whose iterator stands -/
def zLoop (J : It) (g : TG) (tb : TS) (D : Ends) (σ : L2.St) (H1 : Hp) : Prop := ∃ W : Nat → Nat → L2.St → Hp → Prop, (∃ m, W 0 m σ H1) ∧ ∀ i m σ H, W i m σ H →
  (J.stop i H ∧ D.nx σ H) ∨ (J.go i H ∧ ∃ N : L2.St → Hp → Prop, (∀ σ' H', N σ' H' → ∃ m', m' < m ∧ W (i + 1) m' σ' H') ∧ ∀ x H', J.yld i H x H' → g x σ H' fun σ2 H2 => tb { D with nx := N, ct := N, bk := D.nx } σ2 H2)
def zRng1 (vs : List V) (H : Hp) (R : It → Hp → Prop) : Prop := ∃ j : Int, vs = [.int j] ∧ -(2 ^ 62) ≤ j ∧ j < 2 ^ 62 ∧ R (Itr 0 j.toNat) H
def zRng2 (vs : List V) (H : Hp) (R : It → Hp → Prop) : Prop := ∃ i j : Int, vs = [.int i, .int j] ∧ (-(2 ^ 62) ≤ i ∧ i < 2 ^ 62 ∧ -(2 ^ 62) ≤ j ∧ j < 2 ^ 62) ∧ R (Itr i (j - i).toNat) H
def zItL (K : PySem.W.Frag) (x : V) (H : Hp) (R : It → Hp → Prop) : Prop := ∃ a, x = .ref a ∧ (∃ xs, SqL K H a xs) ∧ R (Itl K a) H
def zItT (K : PySem.W.Frag) (x : V) (H : Hp) (R : It → Hp → Prop) : Prop := ∃ a, x = .ref a ∧ (∃ xs, SqT K H a xs) ∧ R (Itt K a) H
/-- a comprehension whose iterator stands -/
def zLc (J : It) (g : TG) (t : TT) (te : TE) (vs : List Nat) (σ : L2.St) (H1 : Hp) (Q : VK) : Prop := ∀ D, H1 D = none → ∃ W : Nat → Nat → Hp → Prop, (∃ m, W 0 m (upd H1 D (.lst []))) ∧ ∀ i m H, W i m H →
  (J.stop i H ∧ Q (.ref D) H) ∨ (J.go i H ∧ ∃ Nx : Hp → Prop, (∀ H', Nx H' → ∃ m', m' < m ∧ W (i + 1) m' H') ∧ ∀ x H', J.yld i H x H' → g x (wipe σ vs) H' fun σ2 H2 => wipe σ2 vs = wipe σ vs ∧ t σ2 H2 fun b H3 =>
    if b = true then te σ2 H3 fun y H4 => ∃ acc, H4 D = some (.lst acc) ∧ acc.length < sizeLine ∧ Nx (upd H4 D (.lst (acc ++ [y]))) else Nx H3)
def zWipe (vs : List Nat) (σ σ2 : L2.St) (A : Prop) : Prop := wipe σ2 vs = wipe σ vs ∧ A
def zAcc (D : Addr) (y : V) (H : Hp) (P : Hp → Prop) : Prop := ∃ acc, H D = some (.lst acc) ∧ acc.length < sizeLine ∧ P (upd H D (.lst (acc ++ [y])))
theorem s_lc {wi : TI} {vs : List Nat} (h : wi σ H fun J H1 => zLc J g t te vs σ H1 Q) : tLc wi g t te vs σ H Q := h
theorem s_yes (h : QB true H) : tYes σ H QB := h
theorem s_wipe {vs : List Nat} {σ2 : L2.St} (h : wipe σ2 vs = wipe σ vs) (h1 : A) : zWipe vs σ σ2 A := ⟨h, h1⟩
theorem s_acc {D : Addr} {acc : List V} {P : Hp → Prop} (h1 : H D = some (.lst acc)) (h2 : acc.length < sizeLine) (h : P (upd H D (.lst (acc ++ [y])))) : zAcc D y H P := ⟨acc, h1, h2, h⟩
theorem lc_rng {lo : Int} {vs : List Nat} (Pv : Addr → Nat → Hp → Prop) (h0 : ∀ D, H D = none → Pv D 0 (upd H D (.lst [])))
    (hs : ∀ D i H', H D = none → i < n → Pv D i H' → g (.int (lo + (i : Int))) (wipe σ vs) H' fun σ2 H2 => zWipe vs σ σ2 (t σ2 H2 fun k H3 => zIf k (te σ2 H3 fun y H4 => zAcc D y H4 (Pv D (i + 1))) (Pv D (i + 1) H3)))
    (hd : ∀ D H', H D = none → Pv D n H' → Q (.ref D) H') : zLc (Itr lo n) g t te vs σ H Q := fun D hD =>
  lc_range (Pv D) (h0 D hD) (fun i H' hi hp => hs D i H' hD hi hp) (fun H' hp => hd D H' hD hp)
theorem lc_lst {vs : List Nat} (xs : List V) (Pv : Addr → Nat → Hp → Prop) (h0 : ∀ D, H D = none → Pv D 0 (upd H D (.lst []))) (hl : ∀ D i H', H D = none → i ≤ xs.length → Pv D i H' → SqL K H' p xs)
    (hs : ∀ D i x H', H D = none → xs[i]? = some x → Pv D i H' → g x (wipe σ vs) H' fun σ2 H2 => zWipe vs σ σ2 (t σ2 H2 fun k H3 => zIf k (te σ2 H3 fun y H4 => zAcc D y H4 (Pv D (i + 1))) (Pv D (i + 1) H3)))
    (hd : ∀ D H', H D = none → Pv D xs.length H' → Q (.ref D) H') : zLc (Itl K p) g t te vs σ H Q := fun D hD =>
  lc_list (xs := xs) (Pv D) (h0 D hD) (fun i H' hi hp => hl D i H' hD hi hp) (fun i x H' hx hp => hs D i x H' hD hx hp) (fun H' hp => hd D H' hD hp)
theorem lc_tp {vs : List Nat} (xs : List V) (Pv : Addr → Nat → Hp → Prop) (h0 : ∀ D, H D = none → Pv D 0 (upd H D (.lst []))) (hl : ∀ D i H', H D = none → i ≤ xs.length → Pv D i H' → SqT K H' p xs)
    (hs : ∀ D i x H', H D = none → xs[i]? = some x → Pv D i H' → g x (wipe σ vs) H' fun σ2 H2 => zWipe vs σ σ2 (t σ2 H2 fun k H3 => zIf k (te σ2 H3 fun y H4 => zAcc D y H4 (Pv D (i + 1))) (Pv D (i + 1) H3)))
    (hd : ∀ D H', H D = none → Pv D xs.length H' → Q (.ref D) H') : zLc (Itt K p) g t te vs σ H Q := fun D hD =>
  lc_tup (xs := xs) (Pv D) (h0 D hD) (fun i H' hi hp => hl D i H' hD hi hp) (fun i x H' hx hp => hs D i x H' hD hx hp) (fun H' hp => hd D H' hD hp)
theorem cut_nat {a b : Nat} {xs : List V} (h : a ≤ b) (h2 : b ≤ xs.length) : cutV xs (some (a : Int)) (some (b : Int)) = (xs.drop a).take (b - a) := by
  unfold cutV
  rw [HT.sIx_nat, HT.sIx_nat, Nat.min_eq_left h2, Nat.min_eq_left (Nat.le_trans h h2)]
theorem s_fdvq (h0 : 0 < j ∧ j < 10 ^ 70) (h : Q (.int (i / j)) H) : rFdv (.int i) (.int j) H Q := ⟨i, j, rfl, rfl, ⟨by omega, Nat.lt_of_lt_of_le (PySem.Flt.log2_lt_of (k := 240) (by decide) (by omega)) (by decide)⟩, by
  show Q (.int (i.fdiv j)) H
  rw [Int.fdiv_eq_ediv_of_nonneg i (by omega)]; exact h⟩
theorem s_extend {b' : Addr} {zs : List V} (h1 : H p = some (.lst xs)) (h2 : H b' = some (.lst zs)) (h3 : xs.length + zs.length ≤ sizeLine) (h : Q .non (upd H p (.lst (xs ++ zs)))) : rExtend (.ref p) [.ref b'] H Q := ⟨p, b', xs, zs, rfl, rfl, h1, h2, h3, h⟩
theorem s_clear (h1 : H p = some (.lst xs)) (h : Q .non (upd H p (.lst []))) : rClear (.ref p) [] H Q := ⟨p, xs, rfl, rfl, h1, h⟩
theorem s_for {wi : TI} {tb1 : TS} (h : wi σ H fun J H1 => zLoop J g tb1 ⟨N, r, b, c⟩ σ H1) : tFor wi g tb1 ⟨N, r, b, c⟩ σ H := h
theorem s_rng1 {R : It → Hp → Prop} (h : tA σ H fun vs H1 => zRng1 vs H1 R) : iRng1 tA σ H R := h
theorem s_rng2 {R : It → Hp → Prop} (h : tA σ H fun vs H1 => zRng2 vs H1 R) : iRng2 tA σ H R := h
theorem s_itl {R : It → Hp → Prop} (h : te σ H fun x H1 => zItL K x H1 R) : iList K te σ H R := h
theorem s_itt {R : It → Hp → Prop} (h : te σ H fun x H1 => zItT K x H1 R) : iTup K te σ H R := h
theorem s_zrng1 {R : It → Hp → Prop} (h1 : -(2 ^ 62) ≤ j ∧ j < 2 ^ 62) (h : R (Itr 0 j.toNat) H) : zRng1 [.int j] H R := ⟨j, rfl, h1.1, h1.2, h⟩
theorem s_zrng2 {R : It → Hp → Prop} (h1 : -(2 ^ 62) ≤ i ∧ i < 2 ^ 62 ∧ -(2 ^ 62) ≤ j ∧ j < 2 ^ 62) (h : R (Itr i (j - i).toNat) H) : zRng2 [.int i, .int j] H R := ⟨i, j, rfl, h1, h⟩
theorem s_zitl {R : It → Hp → Prop} (h1 : SqL K H p xs) (h : R (Itl K p) H) : zItL K (.ref p) H R := ⟨p, rfl, ⟨xs, h1⟩, h⟩
theorem s_zitt {R : It → Hp → Prop} (h1 : SqT K H p xs) (h : R (Itt K p) H) : zItT K (.ref p) H R := ⟨p, rfl, ⟨xs, h1⟩, h⟩
theorem loop_range {tb1 : TS} {lo : Int} (Pv : Nat → L2.St → Hp → Prop) (h0 : Pv 0 σ H) (hs : ∀ i σ' H', i < n → Pv i σ' H' → g (.int (lo + (i : Int))) σ' H' fun σ2 H2 => tb1 ⟨Pv (i + 1), r, N, Pv (i + 1)⟩ σ2 H2)
    (hd : ∀ σ' H', Pv n σ' H' → N σ' H') : zLoop (Itr lo n) g tb1 ⟨N, r, b, c⟩ σ H := for_range (D := ⟨N, r, b, c⟩) Pv h0 hs hd
theorem loop_list {tb1 : TS} (xs : List V) (Pv : Nat → L2.St → Hp → Prop) (h0 : Pv 0 σ H) (hl : ∀ i σ' H', i ≤ xs.length → Pv i σ' H' → SqL K H' p xs)
    (hs : ∀ i x σ' H', xs[i]? = some x → Pv i σ' H' → g x σ' H' fun σ2 H2 => tb1 ⟨Pv (i + 1), r, N, Pv (i + 1)⟩ σ2 H2) (hd : ∀ σ' H', Pv xs.length σ' H' → N σ' H') : zLoop (Itl K p) g tb1 ⟨N, r, b, c⟩ σ H :=
  for_list (D := ⟨N, r, b, c⟩) (xs := xs) Pv h0 hl hs hd
theorem loop_tup {tb1 : TS} (xs : List V) (Pv : Nat → L2.St → Hp → Prop) (h0 : Pv 0 σ H) (hl : ∀ i σ' H', i ≤ xs.length → Pv i σ' H' → SqT K H' p xs)
    (hs : ∀ i x σ' H', xs[i]? = some x → Pv i σ' H' → g x σ' H' fun σ2 H2 => tb1 ⟨Pv (i + 1), r, N, Pv (i + 1)⟩ σ2 H2) (hd : ∀ σ' H', Pv xs.length σ' H' → N σ' H') : zLoop (Itt K p) g tb1 ⟨N, r, b, c⟩ σ H :=
  for_tup (D := ⟨N, r, b, c⟩) (xs := xs) Pv h0 hl hs hd
def zBody (W : Nat → L2.St → Hp → Prop) (m : Nat) (tb : TS) (D : Ends) (σ : L2.St) (H1 : Hp) : Prop := ∃ N1 : L2.St → Hp → Prop, (∀ σ' H', N1 σ' H' → ∃ m', m' < m ∧ W m' σ' H') ∧ tb { D with nx := N1, ct := N1, bk := D.nx } σ H1
theorem s_zbody {W : Nat → L2.St → Hp → Prop} {m : Nat} {tb1 : TS} (h : tb1 ⟨fun σ2 H2 => ∃ m', m' < m ∧ W m' σ2 H2, r, N, fun σ2 H2 => ∃ m', m' < m ∧ W m' σ2 H2⟩ σ H) : zBody W m tb1 ⟨N, r, b, c⟩ σ H := ⟨_, fun σ2 H2 z => z, h⟩
theorem s_while {tb1 : TS} (W : Nat → L2.St → Hp → Prop) (m0 : Nat) (h0 : W m0 σ H)
    (hs : ∀ (m : Nat) σ' H', W m σ' H' → t σ' H' fun k H1 => zIf k (zBody W m tb1 ⟨N, r, b, c⟩ σ' H1) (N σ' H1)) : tWhile t tb1 ⟨N, r, b, c⟩ σ H := ⟨W, ⟨m0, h0⟩, fun m σ' H' w => hs m σ' H' w⟩
/-! ### heaps -/
theorem up_new {H : Hp} {q a : Addr} {o u : HO} (hq : H q = none) (h : H a = some o) : upd H q u a = some o := by rw [upd_ne (ne_of_none h hq)]; exact h
theorem up_far {H : Hp} {q a : Addr} {o u : HO} (hn : a ≠ q) (h : H a = some o) : upd H q u a = some o := by rw [upd_ne hn]; exact h
variable [TQ]
/-- what isn't a code object's table -/
def nt : HO → Bool
  | .tbl _ => false
  | _ => true
/-- what no one writes: what is locked, a table, a thing told by what is true of it -/
def Fz : HO → Prop
  | .frz _ _ => True
  | .tbl _ => True
  | .ext _ => True
  | _ => False
/-- a table: each code object that it tells bears the table's name -/
def TabG (H : Hp) (P : Addr) : Prop := LamX.TabS H P (TQ.q P)
/-- all but tables is as it was; tables stand, and tell of the same names -/
structure Same (H H' : Hp) : Prop where
  st : ∀ b o, H b = some o → nt o = true → H' b = some o
  tb : ∀ b ps, H b = some (.tbl ps) → ∃ ps', H' b = some (.tbl ps')
  tt : ∀ b, TabG H b → TabG H' b
theorem Same.ap {H H' : Hp} (s : Same H H') (b : Addr) (o : HO) (h : H b = some o) (k : nt o = true := by rfl) : H' b = some o := s.st b o h k
instance {H H' : Hp} : CoeFun (Same H H') fun _ => ∀ b o, H b = some o → (_ : nt o = true := by rfl) → H' b = some o := ⟨@Same.ap _ H H'⟩
theorem Same.all {H H' : Hp} (h : ∀ b o, H b = some o → H' b = some o) : Same H H' := ⟨fun b o e _ => h b o e, fun b ps e => ⟨ps, h _ _ e⟩, fun _ t => LamX.TabS.ext t h⟩
theorem Same.refl (H : Hp) : Same H H := .all fun _ _ h => h
theorem Same.trans {H H1 H2 : Hp} (a : Same H H1) (b : Same H1 H2) : Same H H2 := ⟨fun c o h n => b.st c o (a.st c o h n) n, fun c ps h => (a.tb c ps h).elim fun ps' z => b.tb c ps' z, fun c t => b.tt c (a.tt c t)⟩
theorem Same.free {H H' : Hp} (e : Same H H') {l : Addr} (h : H' l = Option.none) : H l = Option.none := by
  cases x : H l with
  | none => rfl
  | some o =>
    cases n : nt o with
    | true => rw [e.st _ _ x n] at h; cases h
    | false =>
      cases o with
      | tbl ps => obtain ⟨ps', z⟩ := e.tb _ _ x; rw [z] at h; cases h
      | _ => cases n
theorem Same.seq {K : PySem.W.Frag} {H H' : Hp} {a : Addr} {xs : List V} (S : Same H H') (h : SqL K H a xs) : SqL K H' a xs := by
  rcases h with (h | ⟨o, h⟩) | h
  · exact .inl (.inl (S _ _ h))
  · exact .inl (.inr ⟨o, S _ _ h⟩)
  · exact .inr h
theorem nt_lit {H H' : Hp} {a : Addr} {o : HO} (S : Same H H') (h : H a = some o) (n : nt o = true) : H' a = some o := S.st a o h n
theorem sm_rd {H H' : Hp} {a : Addr} {o : HO} (S : Same H H') (h : H a = some o) (n : nt o = true := by rfl) : H' a = some o := S.st a o h n
theorem same_new {H : Hp} {p : Addr} {o : HO} (h : H p = none) : Same H (upd H p o) := .all fun b u q => by rw [upd_ne (ne_of_none q h)]; exact q
/-- all but what stands at p (and isn't locked) is as it was -/
structure But (p : Addr) (H H' : Hp) : Prop where
  st : ∀ b o, (b ≠ p ∨ Fz o) → H b = some o → nt o = true → H' b = some o
  tb : ∀ b ps, H b = some (.tbl ps) → ∃ ps', H' b = some (.tbl ps')
  tt : ∀ b, TabG H b → TabG H' b
theorem But.ap {p : Addr} {H H' : Hp} (s : But p H H') (b : Addr) (o : HO) (n : (b ≠ p ∨ Fz o)) (h : H b = some o) (k : nt o = true := by rfl) : H' b = some o := s.st b o n h k
instance {p : Addr} {H H' : Hp} : CoeFun (But p H H') fun _ => ∀ b o, (b ≠ p ∨ Fz o) → H b = some o → (_ : nt o = true := by rfl) → H' b = some o := ⟨@But.ap _ p H H'⟩
theorem But.all {p : Addr} {H H' : Hp} (h : ∀ b o, (b ≠ p ∨ Fz o) → H b = some o → H' b = some o) : But p H H' := ⟨fun b o n e _ => h b o n e, fun b ps e => ⟨ps, h _ _ (.inr trivial) e⟩, fun b t => by
  obtain ⟨ps, h1, h2, h3⟩ := t
  refine ⟨ps, h _ _ (.inr trivial) h1, h2, fun pos cv hc => ?_⟩
  obtain ⟨c, e1, e2⟩ := h3 pos cv hc
  exact ⟨c, e1, h _ _ (.inr trivial) e2⟩⟩
theorem But.refl (p : Addr) (H : Hp) : But p H H := .all fun _ _ _ h => h
theorem But.trans {p : Addr} {H H1 H2 : Hp} (a : But p H H1) (b : But p H1 H2) : But p H H2 := ⟨fun c o n h k => b.st c o n (a.st c o n h k) k, fun c ps h => (a.tb c ps h).elim fun ps' z => b.tb c ps' z, fun c t => b.tt c (a.tt c t)⟩
theorem But.rd {p : Addr} {H H' : Hp} {a : Addr} {o : HO} (S : But p H H') (n : a ≠ p) (h : H a = some o) (k : nt o = true := by rfl) : H' a = some o := S.st a o (.inl n) h k
theorem But.of {p : Addr} {H H' : Hp} (S : Same H H') : But p H H' := ⟨fun b o _ h k => S.st b o h k, S.tb, S.tt⟩
theorem up_but {H : Hp} {p : Addr} {o u : HO} (h : H p = some u) (nf : ¬ Fz u) : But p H (L2.upd H p o) := .all fun b v n e => by
  by_cases c : b = p
  · subst c
    rw [h] at e
    cases e
    exact (n.elim (fun z => absurd rfl z) fun z => absurd z nf)
  · rw [upd_ne c]; exact e
theorem But.up {p : Addr} {H H' : Hp} {o u : HO} (S : But p H H') (hp : H' p = some u) (nf : ¬ Fz u) : But p H (L2.upd H' p o) := S.trans (up_but hp nf)
theorem But.new {p q : Addr} {H H' : Hp} {o : HO} (S : But p H H') (hq : H' q = none) : But p H (L2.upd H' q o) := S.trans (.of (same_new hq))
theorem But.none {p b : Addr} {H H' : Hp} (S : But p H H') (n : b ≠ p) (h : H' b = Option.none) : H b = Option.none := by
  cases x : H b with
  | none => rfl
  | some o =>
    cases k : nt o with
    | true => rw [S.st _ _ (.inl n) x k] at h; cases h
    | false =>
      cases o with
      | tbl ps => obtain ⟨ps', z⟩ := S.tb _ _ x; rw [z] at h; cases h
      | _ => cases k
theorem But.sqL {K : PySem.W.Frag} {p : Addr} {H H' : Hp} {a : Addr} {xs : List V} (S : But p H H') (n : a ≠ p) (h : SqL K H a xs) : SqL K H' a xs := by
  rcases h with (h | ⟨o, h⟩) | h
  · exact .inl (.inl (S _ _ (.inl n) h))
  · exact .inl (.inr ⟨o, S _ _ (.inl n) h⟩)
  · exact .inr h
theorem But.sqT {K : PySem.W.Frag} {p : Addr} {H H' : Hp} {a : Addr} {xs : List V} (S : But p H H') (n : a ≠ p) (h : SqT K H a xs) : SqT K H' a xs := by
  rcases h with (h | ⟨o, h⟩) | h
  · exact .inl (.inl (S _ _ (.inl n) h))
  · exact .inl (.inr ⟨o, S _ _ (.inl n) h⟩)
  · exact .inr h
theorem same_sqT {K : PySem.W.Frag} {H H' : Hp} {a : Addr} {xs : List V} (S : Same H H') (h : SqT K H a xs) : SqT K H' a xs := by
  rcases h with (h | ⟨o, h⟩) | h
  · exact .inl (.inl (S _ _ h))
  · exact .inl (.inr ⟨o, S _ _ h⟩)
  · exact .inr h
/-- the law's script: locked, or of the written part -/
def Scr (K : PySem.W.Frag) (H : Hp) (a : Addr) (ns : List Int) : Prop := (∃ o, H a = some (.frz o (.lst (ns.map V.int)))) ∨
  ∃ (o : Obj) (its : Array Value) (n : Nat), K.lookup a = some o ∧ o.cls = .type "list" ∧ o.dict = none ∧ o.data = .seq its n ∧ its.size ≤ sizeLine ∧ Vals (ns.map V.int) its.toList
theorem Scr.of {K : PySem.W.Frag} {H : Hp} {a : Addr} {ns : List Int} (h0 : Only H) (h : SqL K H a (ns.map V.int)) : Scr K H a ns := by
  rcases h with (h | ⟨o, h⟩) | h
  · rcases h0 a with e | ⟨o, xs, e⟩
    · rw [h] at e; cases e
    · rw [h] at e; cases e
  · exact .inl ⟨o, h⟩
  · exact .inr h
theorem Scr.sq {K : PySem.W.Frag} {H : Hp} {a : Addr} {ns : List Int} (h : Scr K H a ns) : SqL K H a (ns.map V.int) := by
  rcases h with ⟨o, h⟩ | h
  · exact .inl (.inr ⟨o, h⟩)
  · exact .inr h
theorem Scr.but {K : PySem.W.Frag} {H H' : Hp} {p a : Addr} {ns : List Int} (S : But p H H') (h : Scr K H a ns) : Scr K H' a ns := by
  rcases h with ⟨o, h⟩ | h
  · exact .inl ⟨o, S _ _ (.inr trivial) h⟩
  · exact .inr h
theorem Scr.same {K : PySem.W.Frag} {H H' : Hp} {a : Addr} {ns : List Int} (S : Same H H') (h : Scr K H a ns) : Scr K H' a ns := by
  rcases h with ⟨o, h⟩ | h
  · exact .inl ⟨o, S _ _ h⟩
  · exact .inr h
/-- a change of what stands at p, the heap behind it by a name -/
theorem c_setL {N1 : Hp → Prop} (n : Nat) (ys : List V) (h1 : H p = some (.lst xs)) (h2 : ixN xs.length i = some n) (h3 : xs.set n v = ys) (h : ∀ H', But p H H' → H' p = some (.lst ys) → N1 H') : rSetL (.ref p) (.int i) v H N1 :=
  s_setL h1 h2 (h _ (up_but h1 (fun z => z)) (by rw [h3]; exact upd_same))
theorem c_acc {D : Addr} {acc : List V} {P : Hp → Prop} (h1 : H D = some (.lst acc)) (h2 : acc.length < sizeLine) (h : ∀ H', But D H H' → H' D = some (.lst (acc ++ [y])) → P H') : zAcc D y H P :=
  s_acc h1 h2 (h _ (up_but h1 (fun z => z)) upd_same)
theorem c_fld {C dx : Addr} {fs gs : List (Str × V)} {f : Str} {N1 : Hp → Prop} (h1 : H p = some (.ins C dx fs)) (hc : Cls K C) (hn : NoAttr K C f) (hl : fs.length < 1000) (h3 : putF f y fs = gs) (h : ∀ H', But p H H' → H' p = some (.ins C dx gs) → N1 H') : zPutF K (.ref p) f y H N1 :=
  s_zputF h1 hc hn hl (h _ (up_but h1 (fun z => z)) (by rw [h3]; exact upd_same))
theorem c_extend {b' : Addr} {zs : List V} (h1 : H p = some (.lst xs)) (h2 : H b' = some (.lst zs)) (h3 : xs.length + zs.length ≤ sizeLine) (h : ∀ H', But p H H' → H' p = some (.lst (xs ++ zs)) → Q .non H') : rExtend (.ref p) [.ref b'] H Q :=
  s_extend h1 h2 h3 (h _ (up_but h1 (fun z => z)) upd_same)
theorem c_clear (h1 : H p = some (.lst xs)) (h : ∀ H', But p H H' → H' p = some (.lst []) → Q .non H') : rClear (.ref p) [] H Q :=
  s_clear h1 (h _ (up_but h1 (fun z => z)) upd_same)
theorem c_pop {z : V} (h1 : H p = some (.lst xs)) (h2 : xs[xs.length - 1]? = some z) (h : ∀ H', But p H H' → H' p = some (.lst xs.dropLast) → Q z H') : rPop (.ref p) [] H Q :=
  s_pop h1 h2 (h _ (up_but h1 (fun z => z)) upd_same)
theorem c_reverse (h1 : H p = some (.lst xs)) (h : ∀ H', But p H H' → H' p = some (.lst xs.reverse) → Q .non H') : rReverse (.ref p) [] H Q :=
  s_reverse h1 (h _ (up_but h1 (fun z => z)) upd_same)
/-- all but what stands at p or q -/
structure But2 (p q : Addr) (H H' : Hp) : Prop where
  st : ∀ b o, ((b ≠ p ∧ b ≠ q) ∨ Fz o) → H b = some o → nt o = true → H' b = some o
  tb : ∀ b ps, H b = some (.tbl ps) → ∃ ps', H' b = some (.tbl ps')
  tt : ∀ b, TabG H b → TabG H' b
theorem But2.ap {p q : Addr} {H H' : Hp} (s : But2 p q H H') (b : Addr) (o : HO) (n : ((b ≠ p ∧ b ≠ q) ∨ Fz o)) (h : H b = some o) (k : nt o = true := by rfl) : H' b = some o := s.st b o n h k
instance {p q : Addr} {H H' : Hp} : CoeFun (But2 p q H H') fun _ => ∀ b o, ((b ≠ p ∧ b ≠ q) ∨ Fz o) → H b = some o → (_ : nt o = true := by rfl) → H' b = some o := ⟨@But2.ap _ p q H H'⟩
theorem But2.left {p q : Addr} {H H' : Hp} (B : But p H H') : But2 p q H H' := ⟨fun b o n h k => B.st b o (n.imp And.left id) h k, B.tb, B.tt⟩
theorem But2.right {p q : Addr} {H H' : Hp} (B : But q H H') : But2 p q H H' := ⟨fun b o n h k => B.st b o (n.imp And.right id) h k, B.tb, B.tt⟩
theorem But2.trans {p q : Addr} {H H1 H2 : Hp} (a : But2 p q H H1) (b : But2 p q H1 H2) : But2 p q H H2 := ⟨fun c o n h k => b.st c o n (a.st c o n h k) k, fun c ps h => (a.tb c ps h).elim fun ps' z => b.tb c ps' z, fun c t => b.tt c (a.tt c t)⟩
theorem But2.of {p q : Addr} {H H' : Hp} (S : Same H H') : But2 p q H H' := ⟨fun b o _ h k => S.st b o h k, S.tb, S.tt⟩
theorem But2.rd {p q : Addr} {H H' : Hp} {a : Addr} {o : HO} (S : But2 p q H H') (n : a ≠ p) (m : a ≠ q) (h : H a = some o) (k : nt o = true := by rfl) : H' a = some o := S.st a o (.inl ⟨n, m⟩) h k
theorem But2.new {p q a : Addr} {H H' : Hp} {o : HO} (S : But2 p q H H') (ha : H' a = none) : But2 p q H (L2.upd H' a o) := S.trans (But2.of (same_new ha))
theorem But2.own {p q l : Addr} {H H1 H2 : Hp} (a : But2 p q H H1) (b : But l H1 H2) (hl : H l = none) : But2 p q H H2 := ⟨fun c o n h k => b.st c o (.inl (ne_of_none h hl)) (a.st c o n h k) k, fun c ps h => (a.tb c ps h).elim fun ps' z => b.tb c ps' z, fun c t => b.tt c (a.tt c t)⟩
theorem But2.one {p q : Addr} {H H' : Hp} (B : But2 p q H H') (hq : H q = none) : But p H H' := ⟨fun c o n h k => B.st c o (n.imp (fun z => ⟨z, ne_of_none h hq⟩) id) h k, B.tb, B.tt⟩
theorem But2.none {p q b : Addr} {H H' : Hp} (S : But2 p q H H') (n : b ≠ p) (m : b ≠ q) (h : H' b = Option.none) : H b = Option.none := by
  cases x : H b with
  | none => rfl
  | some o =>
    cases k : nt o with
    | true => rw [S.st _ _ (.inl ⟨n, m⟩) x k] at h; cases h
    | false =>
      cases o with
      | tbl ps => obtain ⟨ps', z⟩ := S.tb _ _ x; rw [z] at h; cases h
      | _ => cases k
theorem passC {X : Cx} (σ : L2.St) : PassesAt (L2.CX X.prog X.w) X σ (WE (fun _ _ _ _ => False) σ) := fun pins H s e s' I c => passL pins σ H s e s' I c
theorem c_append (h1 : H p = some (.lst xs)) (h2 : xs.length < sizeLine) (h : ∀ H', But p H H' → H' p = some (.lst (xs ++ [v])) → Q .non H') : rAppend (.ref p) [v] H Q :=
  s_append h1 h2 (h _ (up_but h1 (fun z => z)) upd_same)
/-- a change of what wasn't there at first -/
theorem But.own {p l : Addr} {H H1 H2 : Hp} (a : But p H H1) (b : But l H1 H2) (hl : H l = Option.none) : But p H H2 := ⟨fun c o n h k => b.st c o (.inl (ne_of_none h hl)) (a.st c o n h k) k, fun c ps h => (a.tb c ps h).elim fun ps' z => b.tb c ps' z, fun c t => b.tt c (a.tt c t)⟩
theorem same_own {l : Addr} {H H1 H2 : Hp} (a : Same H H1) (b : But l H1 H2) (hl : H l = Option.none) : Same H H2 := ⟨fun c o h k => b.st c o (.inl (ne_of_none h hl)) (a.st c o h k) k, fun c ps h => (a.tb c ps h).elim fun ps' z => b.tb c ps' z, fun c t => b.tt c (a.tt c t)⟩
/-- what is changed is of the new things -/
theorem same_keep {p : Addr} {o0 : HO} {H H1 H2 : Hp} (a : Same H H1) (b : But p H1 H2) (hl : ∀ o, H p = some o → Fz o) : Same H H2 := ⟨fun c o h k => b.st c o (by
  by_cases e : c = p
  · subst e; exact .inr (hl _ h)
  · exact .inl e) (a.st c o h k) k, fun c ps h => (a.tb c ps h).elim fun ps' z => b.tb c ps' z, fun c t => b.tt c (a.tt c t)⟩
/-- tuples stay -/
def TupS (H H' : Hp) : Prop := ∀ b ys, H b = some (.tup ys) → H' b = some (.tup ys)
theorem TupS.refl (H : Hp) : TupS H H := fun _ _ h => h
theorem TupS.trans {H H1 H2 : Hp} (a : TupS H H1) (b : TupS H1 H2) : TupS H H2 := fun c o h => b c o (a c o h)
theorem TupS.new {q : Addr} {H : Hp} {o : HO} (hq : H q = none) : TupS H (L2.upd H q o) := fun b ys h => same_new hq b _ h
theorem TupS.of {H H' : Hp} (S : Same H H') : TupS H H' := fun b _ h => S b _ h
theorem TupS.but {p : Addr} {H H' : Hp} {o : HO} (S : But p H H') (hp : H p = some o) (n : ∀ ys, o ≠ .tup ys) : TupS H H' := fun b ys h => S b _ (.inl fun e => by
  subst e
  rw [hp] at h
  exact n ys (Option.some.inj h)) h
theorem TupS.butN {p : Addr} {H H' : Hp} (S : But p H H') (hp : H p = none) : TupS H H' := fun b ys h => S b _ (.inl fun e => by
  subst e
  rw [hp] at h
  cases h) h
theorem But2.tups {p q : Addr} {H H' : Hp} {o u : HO} (B : But2 p q H H') (hp : H p = some o) (np : ∀ ys, o ≠ .tup ys) (hq : H q = some u) (nq : ∀ ys, u ≠ .tup ys) : TupS H H' := fun b ys h =>
  B b _ (.inl ⟨ne_of h hp (fun z => np ys z.symm), ne_of h hq (fun z => nq ys z.symm)⟩) h
/-- an item of a list of ints, at an open place within -/
theorem at_ints (ns : List Int) {i : Int} (h0 : 0 ≤ i) (h1 : i < ns.length) : ∃ w, w ∈ ns ∧ atI (ns.map V.int) i = some (.int w) := by
  refine ⟨ns[i.toNat]'(by omega), List.getElem_mem _, ?_⟩
  exact at_of (j := i.toNat) (by omega) (by rw [List.getElem?_map, List.getElem?_eq_getElem (by omega)]; rfl)
theorem putK_len {kvs : List (Key × V)} {k : Key} {v w : V} (h : valV kvs k = some w) : (putK kvs k v).length = kvs.length := by
  unfold putK
  rw [valV_any, h]
  simp
theorem valV_put_ne {kvs : List (Key × V)} {k j : Key} {v : V} (h : ¬ j = k) : valV (putK kvs k v) j = valV kvs j := by rw [valV_put, if_neg h]
theorem valV_put_eq {kvs : List (Key × V)} {k : Key} {v : V} : valV (putK kvs k v) k = some v := by rw [valV_put, if_pos rfl]
theorem c_dput_s {z : Str} {kvs : List (Key × V)} {N1 : Hp → Prop} (h1 : H p = some (.dK kvs)) (h2 : kvs.length < sizeLine) (h : ∀ H', But p H H' → H' p = some (.dK (putK kvs (Sum.inr z : Key) v)) → N1 H') : zDPut (.ref p) (.str z) v H N1 :=
  s_zDPut_s h1 h2 (h _ (up_but h1 (fun z => z)) upd_same)
theorem fdiv_abs (a b : Int) : (a.fdiv b).natAbs ≤ a.natAbs + 1 := Nat.le_succ_of_le (Int.natAbs_fdiv_le_natAbs a b)
/-! ### data: laid at most so deep -/
structure Sh (n : Nat) (d : PyData) : Prop where
  c : d.canLay0 = true
  d : d.depth ≤ n
theorem Sh.shaped {n : Nat} {d : PyData} (h : Sh n d) (hn : n ≤ 64) : SeqAt.shaped d = true := by
  unfold SeqAt.shaped
  rw [h.c, decide_eq_true (Nat.le_trans h.d hn)]
  rfl
theorem Sh.mono {n m : Nat} {d : PyData} (h : Sh n d) (hn : n ≤ m) : Sh m d := ⟨h.c, Nat.le_trans h.d hn⟩
theorem Sh.int {n : Nat} (i : Int) : Sh n (.int i) := ⟨rfl, Nat.zero_le _⟩
theorem Sh.non {n : Nat} : Sh n .none := ⟨rfl, Nat.zero_le _⟩
theorem Sh.bl {n : Nat} (b : Bool) : Sh n (.bool b) := ⟨rfl, Nat.zero_le _⟩
theorem Sh.str {n : Nat} {x : Str} (h : PyData.strOk x = true) : Sh n (.str x) := ⟨h, Nat.zero_le _⟩
theorem sh_all {n : Nat} : ∀ {ds : List PyData}, (∀ d ∈ ds, Sh n d) → PyData.canLayAll0 ds = true ∧ PyData.depthAll ds ≤ n
  | [], _ => ⟨rfl, Nat.zero_le _⟩
  | d :: ds, h => by
    have a := h d List.mem_cons_self
    have b := sh_all (ds := ds) fun e he => h e (List.mem_cons_of_mem _ he)
    refine ⟨?_, ?_⟩
    · show (d.canLay0 && PyData.canLayAll0 ds) = true
      rw [a.c, b.1]; rfl
    · show max d.depth (PyData.depthAll ds) ≤ n
      exact Nat.max_le.mpr ⟨a.d, b.2⟩
theorem Sh.list {n : Nat} {ds : List PyData} (h : ∀ d ∈ ds, Sh n d) : Sh (n + 1) (.list ds) := by
  have a := sh_all h
  refine ⟨?_, ?_⟩
  · show PyData.canLayAll0 ds = true
    exact a.1
  · show PyData.depthAll ds + 1 ≤ n + 1
    exact Nat.succ_le_succ a.2
theorem Sh.tup {n : Nat} {ds : List PyData} (h : ∀ d ∈ ds, Sh n d) : Sh (n + 1) (.tuple ds) := by
  have a := sh_all h
  refine ⟨?_, ?_⟩
  · show PyData.canLayAll0 ds = true
    exact a.1
  · show PyData.depthAll ds + 1 ≤ n + 1
    exact Nat.succ_le_succ a.2
theorem Sh.refl {n : Nat} {d : PyData} (h : Sh n d) : PyData.eqv d d = true := SeqAt.eqv_refl d h.c
theorem dp_ints {K : PySem.W.Frag} {H : Hp} : ∀ ns : List Int, DpAll K H (ns.map V.int) (ns.map PyData.int)
  | [] => .nil
  | _ :: ns => .cons (.int _) (dp_ints ns)
theorem sh_ints {n : Nat} (ns : List Int) : ∀ d ∈ ns.map PyData.int, Sh n d := fun d h => by
  obtain ⟨i, _, rfl⟩ := List.mem_map.mp h
  exact Sh.int i
/-- a promise that asks what never holds -/
theorem fn_none {P : Program} {w : World} {K : PySem.W.Frag} {mg : Str → Option Value} {base : Heap} {CX : CXT} {k : Nat} {f : Addr} {fd : FuncData} {ps : List Str} {sp : Sp} (h : ∀ vs H Q E, ¬ sp vs H Q E) : FnOk P w K mg base CX k f fd ps sp :=
  ⟨fun vs H Q E z => absurd z (h vs H Q E), fun A outer s H args us vs Q E _ _ _ _ z => absurd z (h vs H Q E)⟩
/-! ### specs by the number of arguments -/
def Sp0 (f : Hp → VK → XK → Prop) : Sp := fun vs H Q E => vs = [] ∧ f H Q E
def Sp1 (f : V → Hp → VK → XK → Prop) : Sp := fun vs H Q E => ∃ a, vs = [a] ∧ f a H Q E
def Sp2 (f : V → V → Hp → VK → XK → Prop) : Sp := fun vs H Q E => ∃ a b, vs = [a, b] ∧ f a b H Q E
def Sp3 (f : V → V → V → Hp → VK → XK → Prop) : Sp := fun vs H Q E => ∃ a b c, vs = [a, b, c] ∧ f a b c H Q E
def Sp4 (f : V → V → V → V → Hp → VK → XK → Prop) : Sp := fun vs H Q E => ∃ a b c d, vs = [a, b, c, d] ∧ f a b c d H Q E
def Sp5 (f : V → V → V → V → V → Hp → VK → XK → Prop) : Sp := fun vs H Q E => ∃ a b c d e, vs = [a, b, c, d, e] ∧ f a b c d e H Q E
end
end Z
/-! ### rows of values -/
namespace Z
open PySem PySem.Spec PyProof.Rows L2
variable [TQ]
def Row {α : Type} (R : α → V → Prop) (xs : List α) (vs : List V) : Prop := vs.length = xs.length ∧ ∀ (i : Nat) (x : α) (v : V), xs[i]? = some x → vs[i]? = some v → R x v
section
variable {α : Type} {R R' : α → V → Prop} {xs ys : List α} {vs ws : List V} {x : α} {v : V} {i : Nat}
theorem Row.nil : Row R [] [] := ⟨rfl, fun i x v h => by simp at h⟩
theorem Row.imp (h : Row R xs vs) (f : ∀ x v, x ∈ xs → R x v → R' x v) : Row R' xs vs := ⟨h.1, fun i x v a b => f _ _ (List.mem_of_getElem? a) (h.2 i x v a b)⟩
theorem Row.get (h : Row R xs vs) (e : xs[i]? = some x) : ∃ v, vs[i]? = some v ∧ R x v := by
  have hi := (List.getElem?_eq_some_iff.mp e).1
  have hj : i < vs.length := by rw [h.1]; exact hi
  exact ⟨vs[i], List.getElem?_eq_getElem hj, h.2 i x _ e (List.getElem?_eq_getElem hj)⟩
theorem Row.getv (h : Row R xs vs) (e : vs[i]? = some v) : ∃ x, xs[i]? = some x ∧ R x v := by
  have hi := (List.getElem?_eq_some_iff.mp e).1
  have hj : i < xs.length := by rw [← h.1]; exact hi
  exact ⟨xs[i], List.getElem?_eq_getElem hj, h.2 i _ v (List.getElem?_eq_getElem hj) e⟩
theorem Row.one (h : R x v) : Row R [x] [v] := ⟨rfl, fun i a b e f => by
  cases i with
  | zero => simp at e f; subst e; subst f; exact h
  | succ j => simp at e⟩
theorem Row.append (h : Row R xs vs) (g : Row R ys ws) : Row R (xs ++ ys) (vs ++ ws) := ⟨by rw [List.length_append, List.length_append, h.1, g.1], fun i a b e f => by
  by_cases c : i < xs.length
  · rw [List.getElem?_append_left c] at e
    rw [List.getElem?_append_left (by rw [h.1]; exact c)] at f
    exact h.2 i a b e f
  · rw [List.getElem?_append_right (by omega)] at e
    rw [List.getElem?_append_right (by rw [h.1]; omega), h.1] at f
    exact g.2 _ a b e f⟩
theorem Row.app (h : Row R xs vs) (g : R x v) : Row R (xs ++ [x]) (vs ++ [v]) := h.append (Row.one g)
theorem Row.cons (g : R x v) (h : Row R xs vs) : Row R (x :: xs) (v :: vs) := (Row.one g).append h
theorem Row.uncons {l : List V} (h : Row R (x :: xs) l) : ∃ v vs, l = v :: vs ∧ R x v ∧ Row R xs vs := by
  cases l with
  | nil => have := h.1; simp at this
  | cons v vs => exact ⟨v, vs, rfl, h.2 0 _ _ rfl rfl, by have := h.1; simpa using this, fun i a b e f => h.2 (i + 1) a b (by simpa using e) (by simpa using f)⟩
theorem Row.set (h : Row R xs vs) (g : R x v) : Row R (xs.set i x) (vs.set i v) := ⟨by rw [List.length_set, List.length_set, h.1], fun j a b e f => by
  by_cases c : i = j
  · subst c
    have hi := (List.getElem?_eq_some_iff.mp e).1
    rw [List.length_set] at hi
    rw [List.getElem?_set_self hi] at e
    rw [List.getElem?_set_self (by rw [h.1]; exact hi)] at f
    cases e; cases f; exact g
  · rw [List.getElem?_set_ne c] at e f
    exact h.2 j a b e f⟩
theorem Row.take (n : Nat) (h : Row R xs vs) : Row R (xs.take n) (vs.take n) := ⟨by rw [List.length_take, List.length_take, h.1], fun j a b e f => by
  rw [List.getElem?_take] at e f
  split at e
  · rename_i c; rw [if_pos c] at f; exact h.2 j a b e f
  · cases e⟩
theorem Row.drop (n : Nat) (h : Row R xs vs) : Row R (xs.drop n) (vs.drop n) := ⟨by rw [List.length_drop, List.length_drop, h.1], fun j a b e f => by
  rw [List.getElem?_drop] at e f
  exact h.2 _ a b e f⟩
theorem Row.len (h : Row R xs vs) : vs.length = xs.length := h.1
theorem Row.mp {β : Type} {f : β → α} {bs : List β} (h : Row R (bs.map f) vs) : Row (fun b v => R (f b) v) bs vs := ⟨by rw [h.1, List.length_map], fun i b v e g => h.2 i _ v (by rw [List.getElem?_map, e]; rfl) g⟩
theorem Row.mpr {β : Type} {f : β → α} {bs : List β} (h : Row (fun b v => R (f b) v) bs vs) : Row R (bs.map f) vs := ⟨by rw [h.1, List.length_map], fun i a v e g => by
  rw [List.getElem?_map] at e
  obtain ⟨b, e1, rfl⟩ := Option.map_eq_some_iff.mp e
  exact h.2 i b v e1 g⟩
end
/-- a tuple of ints -/
def TupI (H : Hp) (x : List Int) (v : V) : Prop := ∃ t, v = .ref t ∧ H t = some (.tup (x.map V.int))
def TupsAt (H : Hp) (xss : List (List Int)) (vs : List V) : Prop := Row (TupI H) xss vs
theorem TupI.mono {H H' : Hp} {x : List Int} {v : V} (S : TupS H H') (h : TupI H x v) : TupI H' x v := by
  obtain ⟨t, rfl, e⟩ := h
  exact ⟨t, rfl, S _ _ e⟩
theorem TupsAt.mono {H H' : Hp} {xss : List (List Int)} {vs : List V} (S : TupS H H') (h : TupsAt H xss vs) : TupsAt H' xss vs := Row.imp h fun _ _ _ r => r.mono S
/-- a list or a tuple of ints -/
def SeqI (K : PySem.W.Frag) (H : Hp) (x : List Int) (v : V) : Prop := ∃ t, v = .ref t ∧ (SqL K H t (x.map V.int) ∨ SqT K H t (x.map V.int))
theorem SeqI.same {K : PySem.W.Frag} {H H' : Hp} {x : List Int} {v : V} (S : Same H H') (h : SeqI K H x v) : SeqI K H' x v := by
  obtain ⟨t, rfl, e | e⟩ := h
  · exact ⟨t, rfl, .inl (S.seq e)⟩
  · exact ⟨t, rfl, .inr (same_sqT S e)⟩
theorem TupI.seq {K : PySem.W.Frag} {H : Hp} {x : List Int} {v : V} (h : TupI H x v) : SeqI K H x v := by
  obtain ⟨t, rfl, e⟩ := h
  exact ⟨t, rfl, .inr (SqT.of e)⟩
theorem tups_dp {K : PySem.W.Frag} {H : Hp} : ∀ {xss : List (List Int)} {vs : List V}, TupsAt H xss vs → DpAll K H vs (xss.map fun x => PyData.tuple (x.map PyData.int))
  | [], vs, h => by
    cases vs with
    | nil => exact .nil
    | cons _ _ => have := h.1; simp at this
  | x :: xss, vs, h => by
    obtain ⟨v, r, rfl, ⟨t, rfl, e⟩, g⟩ := Row.uncons h
    exact .cons (.tup (SqT.of e) (dp_ints x)) (tups_dp g)
theorem sh_tups {n : Nat} (xss : List (List Int)) : ∀ d ∈ xss.map (fun x => PyData.tuple (x.map PyData.int)), Sh (n + 1) d := fun d h => by
  obtain ⟨x, _, rfl⟩ := List.mem_map.mp h
  exact Sh.tup (sh_ints x)
/-- a pen: a list of a script and of numbers -/
def Pn (K : PySem.W.Frag) (n : Nat) (H : Hp) (p : Addr) : Prop := ∃ (sa : Addr) (ns ks : List Int), Scr K H sa ns ∧ ks.length = n ∧ (∀ x ∈ ks, 0 ≤ x) ∧ H p = some (.lst (.ref sa :: ks.map V.int))
section
variable {K : PySem.W.Frag} {H H' : Hp} {p q : Addr} {n : Nat} {o : HO}
theorem Pn.ne (h : Pn K n H p) (hq : H q = none) : q ≠ p := by
  obtain ⟨sa, ns, ks, hS, hl, hk, hp⟩ := h
  exact (ne_of_none hp hq).symm
theorem Pn.but (h : Pn K n H p) (B : But q H H') (m : p ≠ q) : Pn K n H' p := by
  obtain ⟨sa, ns, ks, hS, hl, hk, hp⟩ := h
  exact ⟨sa, ns, ks, hS.but B, hl, hk, B _ _ (.inl m) hp⟩
theorem Pn.butN (h : Pn K n H p) (B : But q H H') (m : q ≠ p) : Pn K n H' p := h.but B m.symm
theorem Pn.same (h : Pn K n H p) (S : Same H H') : Pn K n H' p := by
  obtain ⟨sa, ns, ks, hS, hl, hk, hp⟩ := h
  exact ⟨sa, ns, ks, hS.same S, hl, hk, S _ _ hp⟩
theorem Pn.new (h : Pn K n H p) (hq : H q = none) : Pn K n (upd H q o) p := h.same (same_new hq)
theorem Pn.tups (h : Pn K n H p) (B : But p H H') : TupS H H' := by
  obtain ⟨sa, ns, ks, hS, hl, hk, hp⟩ := h
  exact TupS.but B hp fun ys e => by cases e
theorem Pn.nei (h : Pn K n H p) {xs : List Int} (hq : H q = some (.lst (xs.map V.int))) : q ≠ p := by
  obtain ⟨sa, ns, ks, hS, hl, hk, hp⟩ := h
  exact ne_of hq hp (by
    intro z
    injection z with z
    cases xs with
    | nil => cases z
    | cons x xs => injection z with z _; cases z)
theorem Pn.net (h : Pn K n H p) {xs : List V} (hq : H q = some (.tup xs)) : q ≠ p := by
  obtain ⟨sa, ns, ks, hS, hl, hk, hp⟩ := h
  exact ne_of hq hp (by intro z; cases z)
end
theorem TupS.butL {p : Addr} {H H' : Hp} {xs : List V} (S : But p H H') (hp : H p = some (.lst xs)) : TupS H H' := TupS.but S hp fun ys e => by cases e
/-- is, of None or of truths -/
def rIsU : R2 := fun x y H Q => rIsNz x y H Q ∨ rIsB x y H Q
def rNotU : R2 := fun x y H Q => rNotNz x y H Q ∨ rNotB x y H Q
theorem op_isU {X : Cx} : OpR X (compareOp .Is) rIsU := OpR.or op_isNz op_isBl
theorem op_notU {X : Cx} : OpR X (compareOp .IsNot) rNotU := OpR.or op_notNz op_notBl
section
variable {K : PySem.W.Frag} {σ : L2.St} {H : Hp} {Q : VK} {N b c : L2.St → Hp → Prop} {r : VK} {te : TE} {x y : V} {i : Int} {n : Nat} {p q : Addr} {xs : List V} {j k : Bool}
theorem s_isU_n (h : rIsNz x .non H Q) : rIsU x .non H Q := .inl h
theorem s_notU_n (h : rNotNz x .non H Q) : rNotU x .non H Q := .inl h
theorem s_isU_b (h : Q (.bl (decide (j = k))) H) : rIsU (.bl j) (.bl k) H Q := .inr ⟨j, k, rfl, rfl, h⟩
theorem s_notU_b (h : Q (.bl (!decide (j = k))) H) : rNotU (.bl j) (.bl k) H Q := .inr ⟨j, k, rfl, rfl, h⟩
/-- an item of a literal list of ints -/
theorem s_ixI (ns : List Int) (h1 : SqL K H p xs) (e : xs = ns.map V.int) (h2 : 0 ≤ i) (h3 : i < ns.length) (h : ∀ w, w ∈ ns → ns[i.toNat]? = some w → Q (.int w) H) : rIx K (.ref p) (.int i) H Q := by
  subst e
  have hl : i.toNat < ns.length := by omega
  refine s_ix_l h1 (v := .int ns[i.toNat]) (at_of (j := i.toNat) (by omega) (by rw [List.getElem?_map, List.getElem?_eq_getElem hl]; rfl)) ?_
  exact h _ (List.getElem_mem _) (List.getElem?_eq_getElem hl)
theorem s_ixN {ns : List V} {m : Nat} {v : V} (h1 : SqL K H p ns) (h2 : ns[m]? = some v) (h : Q v H) : rIx K (.ref p) (.int (m : Int)) H Q := s_ix_l h1 (atI_nat h2) h
theorem s_ixTN {ns : List V} {m : Nat} {v : V} (h1 : SqT K H p ns) (h2 : ns[m]? = some v) (h : Q v H) : rIx K (.ref p) (.int (m : Int)) H Q := s_ix_t h1 (atI_nat h2) h
end
section
variable {K : PySem.W.Frag} {H : Hp} {Q : VK} {p q a : Addr} {xs : List V} {i : Int} {x : V} {te : TE} {σ : L2.St}
theorem tyx_l (h : SqL K H p xs) : TyX K H (.ref p) (.type "list") := by
  rcases h with (h | ⟨o, h⟩) | ⟨o, its, n, h, hc, _⟩
  · exact .base (.lst h)
  · exact .base (.frz h)
  · exact .kList h hc
theorem tyx_t (h : SqT K H p xs) : TyX K H (.ref p) (.type "tuple") := by
  rcases h with (h | ⟨o, h⟩) | ⟨o, its, n, h, hc, _⟩
  · exact .base (.tup h)
  · exact .fTuple h
  · exact .kTuple h hc
theorem kit_any2 {K : PySem.W.Frag} {a b c : String} {r r' : Bool} (h1 : kitB a b = some r) (h2 : kitB a c = some r') : PySem.W.kitAny K (.type a) [.type b, .type c] = some (r || r') := by
  unfold PySem.W.kitAny
  have e1 := kit_ty (K := K) h1
  have e2 := kit_ty (K := K) h2
  show (match PySem.W.kitOne K (.type a) (.type b) with | some true => some true | some false => PySem.W.kitAny K (.type a) [.type c] | none => none) = _
  rw [e1]
  cases r with
  | true => rfl
  | false =>
    show (match PySem.W.kitOne K (.type a) (.type c) with | some true => some true | some false => some false | none => none) = _
    rw [e2]
    cases r' <;> rfl
theorem s_isiT {cs : List V} {t : Value} {us : List Value} {bb : Bool} (h1 : H q = some (.tup cs)) (h2 : Paired ClsV cs us) (h3 : TyX K H x t) (h4 : PySem.W.kitAny K t us = some bb) (h : Q (.bl bb) H) : rIsi2 K [x, .ref q] H Q := .inr ⟨x, q, cs, t, us, bb, rfl, h1, h2, h3, h4, h⟩
theorem isi_lt_l (h1 : H q = some (.tup [.ty "list", .ty "tuple"])) (h2 : SqL K H p xs) (h : Q (.bl true) H) : rIsi2 K [.ref p, .ref q] H Q :=
  s_isiT h1 (.cons (.ty _) (.cons (.ty _) .nil)) (tyx_l h2) (kit_any2 (r := true) (r' := false) (by decide +kernel) (by decide +kernel)) h
theorem isi_lt_t (h1 : H q = some (.tup [.ty "list", .ty "tuple"])) (h2 : SqT K H p xs) (h : Q (.bl true) H) : rIsi2 K [.ref p, .ref q] H Q :=
  s_isiT h1 (.cons (.ty _) (.cons (.ty _) .nil)) (tyx_t h2) (kit_any2 (r := false) (r' := true) (by decide +kernel) (by decide +kernel)) h
theorem isi_list (h2 : SqL K H p xs) (h : Q (.bl true) H) : rIsi2 K [.ref p, .ty "list"] H Q := s_isi (bb := true) (.ty _) (tyx_l h2) (kit_ty (by decide +kernel)) h
theorem isi_tup (h2 : SqT K H p xs) (h : Q (.bl true) H) : rIsi2 K [.ref p, .ty "tuple"] H Q := s_isi (bb := true) (.ty _) (tyx_t h2) (kit_ty (by decide +kernel)) h
theorem isi_int (h : Q (.bl true) H) : rIsi2 K [.int i, .ty "int"] H Q := s_isi (bb := true) (.ty _) (.base (.int i)) (kit_ty (by decide +kernel)) h
theorem isi_int_bool (h : Q (.bl false) H) : rIsi2 K [.int i, .ty "bool"] H Q := s_isi (bb := false) (.ty _) (.base (.int i)) (kit_ty (by decide +kernel)) h
/-- for x in a list or a tuple -/
def iUn (K : PySem.W.Frag) (te : TE) : TI := fun σ H R => iList K te σ H R ∨ iTup K te σ H R
theorem pi_un {X : Cx} {tg e : Expr} {te : TE} (h : PE X e te) : PI X tg e (iUn X.K te) :=
  ⟨fun pins s σ H R I z => z.elim (fun z => (pi_list h).run pins s σ H R I z) fun z => (pi_tup h).run pins s σ H R I z⟩
theorem s_iun_l {R : It → Hp → Prop} (h : te σ H fun x H1 => zItL K x H1 R) : iUn K te σ H R := .inl h
theorem s_iun_t {R : It → Hp → Prop} (h : te σ H fun x H1 => zItT K x H1 R) : iUn K te σ H R := .inr h
end
/-- a list or a tuple that is gone through -/
def SqB (K : PySem.W.Frag) : Bool → Hp → Addr → List V → Prop
  | true, H, p, xs => SqL K H p xs
  | false, H, p, xs => SqT K H p xs
def Itu (K : PySem.W.Frag) (p : Addr) : Bool → It
  | true => Itl K p
  | false => Itt K p
theorem SqB.same {K : PySem.W.Frag} {k : Bool} {H H' : Hp} {p : Addr} {xs : List V} (S : Same H H') (h : SqB K k H p xs) : SqB K k H' p xs := by
  cases k with
  | true => exact S.seq h
  | false => exact same_sqT S h
theorem SqB.but {K : PySem.W.Frag} {k : Bool} {H H' : Hp} {p q : Addr} {xs : List V} (B : But q H H') (n : p ≠ q) (h : SqB K k H p xs) : SqB K k H' p xs := by
  cases k with
  | true => exact B.sqL n h
  | false => exact B.sqT n h
section
variable {K : PySem.W.Frag} {H : Hp} {Q : VK} {p q a : Addr} {xs : List V} {i : Int} {x : V} {te : TE} {σ : L2.St} {k : Bool} {g : TG} {N b c : L2.St → Hp → Prop} {r : VK} {t : TT} {n : Nat}
theorem s_iunV {R : It → Hp → Prop} (h : SqL K H p xs ∨ SqT K H p xs) (hv : σ[n]? = some (some (.ref p))) (hR : ∀ k, SqB K k H p xs → R (Itu K p k) H) : iUn K (tVar n) σ H R :=
  h.elim (fun z => .inl ⟨_, hv, p, rfl, ⟨xs, z⟩, hR true z⟩) fun z => .inr ⟨_, hv, p, rfl, ⟨xs, z⟩, hR false z⟩
theorem loop_un {tb1 : TS} (xs : List V) (Pv : Nat → L2.St → Hp → Prop) (h0 : Pv 0 σ H) (hl : ∀ i σ' H', i ≤ xs.length → Pv i σ' H' → SqB K k H' p xs)
    (hs : ∀ i x σ' H', xs[i]? = some x → Pv i σ' H' → g x σ' H' fun σ2 H2 => tb1 ⟨Pv (i + 1), r, N, Pv (i + 1)⟩ σ2 H2) (hd : ∀ σ' H', Pv xs.length σ' H' → N σ' H') : zLoop (Itu K p k) g tb1 ⟨N, r, b, c⟩ σ H := by
  cases k with
  | true => exact loop_list xs Pv h0 hl hs hd
  | false => exact loop_tup xs Pv h0 hl hs hd
theorem lc_un {vs : List Nat} (xs : List V) (Pv : Addr → Nat → Hp → Prop) (h0 : ∀ D, H D = none → Pv D 0 (upd H D (.lst []))) (hl : ∀ D i H', H D = none → i ≤ xs.length → Pv D i H' → SqB K k H' p xs)
    (hs : ∀ D i x H', H D = none → xs[i]? = some x → Pv D i H' → g x (wipe σ vs) H' fun σ2 H2 => zWipe vs σ σ2 (t σ2 H2 fun k H3 => zIf k (te σ2 H3 fun y H4 => zAcc D y H4 (Pv D (i + 1))) (Pv D (i + 1) H3)))
    (hd : ∀ D H', H D = none → Pv D xs.length H' → Q (.ref D) H') : zLc (Itu K p k) g t te vs σ H Q := by
  cases k with
  | true => exact lc_lst xs Pv h0 hl hs hd
  | false => exact lc_tp xs Pv h0 hl hs hd
/-- in a list or a tuple -/
theorem s_ixU {z : Int} {v : V} (h1 : SqL K H p xs ∨ SqT K H p xs) (h2 : atI xs z = some v) (h : Q v H) : rIx K (.ref p) (.int z) H Q := h1.elim (fun y => s_ix_l y h2 h) fun y => s_ix_t y h2 h
theorem s_lenU (h1 : SqL K H p xs ∨ SqT K H p xs) (h : Q (.int xs.length) H) : rLen K [.ref p] H Q := h1.elim (fun y => s_len_l y h) fun y => s_len_t y h
theorem s_gunU {tg : TGs} {NN : L2.St → Hp → Prop} (hs : SqL K H p xs ∨ SqT K H p xs) (hl : xs.length = n) (h : tg xs σ H NN) : gUn K n tg (.ref p) σ H NN := hs.elim (fun y => s_gun_l y hl h) fun y => s_gun_t y hl h
theorem s_listU (h1 : SqL K H p xs ∨ SqT K H p xs) (h : ∀ l, H l = none → Q (.ref l) (upd H l (.lst xs))) : rListOf K [.ref p] H Q := h1.elim (fun y => s_listof_l y h) fun y => s_listof_t y h
theorem isi_ltU (h1 : H q = some (.tup [.ty "list", .ty "tuple"])) (h2 : SqL K H p xs ∨ SqT K H p xs) (h : Q (.bl true) H) : rIsi2 K [.ref p, .ref q] H Q := h2.elim (fun y => isi_lt_l h1 y h) fun y => isi_lt_t h1 y h
end
theorem seqU_same {K : PySem.W.Frag} {H H' : Hp} {p : Addr} {xs : List V} (S : Same H H') (h : SqL K H p xs ∨ SqT K H p xs) : SqL K H' p xs ∨ SqT K H' p xs := h.imp S.seq (same_sqT S)
theorem seqU_but {K : PySem.W.Frag} {H H' : Hp} {p q : Addr} {xs : List V} (B : But q H H') (n : p ≠ q) (h : SqL K H p xs ∨ SqT K H p xs) : SqL K H' p xs ∨ SqT K H' p xs := h.imp (B.sqL n) (B.sqT n)
theorem inV_ints (i : Int) (ns : List Int) : inV (.int i) (ns.map V.int) = decide (i ∈ ns) := by
  unfold inV
  induction ns with
  | nil => simp
  | cons a ns ih =>
    rw [List.map_cons, List.any_cons, ih]
    have : eqV (.int a) (.int i) = decide (i = a) := by
      show (a == i) = _
      by_cases c : i = a
      · subst c; simp
      · rw [decide_eq_false c]; simpa using fun z => c z.symm
    rw [this]
    by_cases c : i = a <;> simp [c]
theorem cut_takeI (ys : List Int) (j : Nat) : cutV (ys.map V.int) none (some (j : Int)) = (ys.take j).map V.int := by
  unfold cutV
  rw [HT.sIx_none, HT.sIx_nat, List.drop_zero, Nat.sub_zero, List.length_map, ← List.map_take]
  congr 1
  by_cases h : j ≤ ys.length
  · rw [Nat.min_eq_left h]
  · rw [Nat.min_eq_right (by omega), List.take_of_length_le (by omega), List.take_of_length_le (by omega)]
theorem cut_dropI (ys : List Int) (j : Nat) : cutV (ys.map V.int) (some (j : Int)) none = (ys.drop j).map V.int := by
  unfold cutV
  rw [HT.sIx_none, HT.sIx_nat, List.length_map]
  by_cases h : j ≤ ys.length
  · rw [Nat.min_eq_left h, ← List.map_drop, List.take_of_length_le (by rw [List.length_map, List.length_drop]; omega)]
  · rw [Nat.min_eq_right (by omega), List.drop_eq_nil_of_le (by rw [List.length_map]; omega), List.drop_eq_nil_of_le (by omega)]
    simp
theorem SqB.of {K : PySem.W.Frag} {H : Hp} {p : Addr} {xs : List V} (h : SqL K H p xs ∨ SqT K H p xs) : ∃ k, SqB K k H p xs := h.elim (fun z => ⟨true, z⟩) fun z => ⟨false, z⟩
theorem SqB.or {K : PySem.W.Frag} {H : Hp} {p : Addr} {xs : List V} {k : Bool} (h : SqB K k H p xs) : SqL K H p xs ∨ SqT K H p xs := by
  cases k with
  | true => exact .inl h
  | false => exact .inr h
theorem s_iunB {K : PySem.W.Frag} {σ : L2.St} {H : Hp} {n : Nat} {p : Addr} {xs : List V} {k : Bool} {R : It → Hp → Prop} (h : SqB K k H p xs) (hv : σ[n]? = some (some (.ref p))) (hR : R (Itu K p k) H) : iUn K (tVar n) σ H R := by
  cases k with
  | true => exact .inl ⟨_, hv, p, rfl, ⟨xs, h⟩, hR⟩
  | false => exact .inr ⟨_, hv, p, rfl, ⟨xs, h⟩, hR⟩
theorem ixN_nat {n i : Nat} (h : i < n) : ixN n (i : Int) = some i := by
  unfold ixN
  rw [if_pos (by omega), if_pos (by omega), Int.toNat_natCast]
theorem s_iunE {K : PySem.W.Frag} {σ : L2.St} {H : Hp} {p : Addr} {xs : List V} {k : Bool} {te : TE} {R : It → Hp → Prop} (hte : ∀ Q : VK, Q (.ref p) H → te σ H Q) (h : SqB K k H p xs) (hR : R (Itu K p k) H) : iUn K te σ H R := by
  cases k with
  | true => exact .inl (hte _ ⟨p, rfl, ⟨xs, h⟩, hR⟩)
  | false => exact .inr (hte _ ⟨p, rfl, ⟨xs, h⟩, hR⟩)
theorem s_tupU {K : PySem.W.Frag} {H : Hp} {p : Addr} {xs : List V} {Q : VK} (h1 : SqL K H p xs ∨ SqT K H p xs) (h : ∀ l H', Same H H' → SqT K H' l xs → Q (.ref l) H') : rTupOf K [.ref p] H Q :=
  h1.elim (fun y => s_tupof_l y fun l hl => h l _ (same_new hl) (SqT.of upd_same)) fun y => s_tupof_t y (h p H (Same.refl _) y)
theorem at_neg1 {xs : List V} {v : V} (h : xs[xs.length - 1]? = some v) : atI xs (-1) = some v := by
  have hl := (List.getElem?_eq_some_iff.mp h).1
  have e : ixN xs.length (-1) = some (xs.length - 1) := by
    unfold ixN
    rw [if_neg (by omega), if_pos (by omega)]
    congr 1
    omega
  unfold atI
  rw [e]
  exact h
theorem sqL_ins {K : PySem.W.Frag} {H H' : Hp} {p l : Addr} {o : HO} {xs : List V} (hp : H p = some o) (no : ∀ ys, o ≠ .lst ys) (B : But p H H') (h : SqL K H l xs) : SqL K H' l xs := by
  rcases h with (h | ⟨u, h⟩) | h
  · exact .inl (.inl (B _ _ (.inl (ne_of h hp fun z => no _ z.symm)) h))
  · exact .inl (.inr ⟨u, B _ _ (.inr trivial) h⟩)
  · exact .inr h
theorem s_cutT {K : PySem.W.Frag} {H : Hp} {Q : VK} {a : Addr} {xs : List V} {lo hi : Option Int} (h1 : SqT K H a xs) (hn : ¬ (HT.sIx xs.length 0 lo = 0 ∧ HT.sIx xs.length xs.length hi = xs.length)) (h : ∀ p, H p = none → Q (.ref p) (upd H p (.tup (cutV xs lo hi)))) : rSlU K (.ref a) lo hi H Q :=
  .inr ⟨a, xs, rfl, h1, fun z => absurd z hn, fun _ => h⟩
theorem s_cutTw {K : PySem.W.Frag} {H : Hp} {Q : VK} {a : Addr} {xs : List V} {lo hi : Option Int} (h1 : SqT K H a xs) (hn : HT.sIx xs.length 0 lo = 0 ∧ HT.sIx xs.length xs.length hi = xs.length) (h : Q (.ref a) H) : rSlU K (.ref a) lo hi H Q :=
  .inr ⟨a, xs, rfl, h1, fun _ => h, fun z => absurd hn z⟩
theorem cut_front {xs : List V} {v : V} : cutV (xs ++ [v]) none (some (-1)) = xs := by
  have e : HT.sIx (xs ++ [v]).length (xs ++ [v]).length (some (-1)) = xs.length := by
    show (if (-1 : Int) < 0 then ((-1 : Int) + ((xs ++ [v]).length : Int)).toNat else min (-1 : Int).toNat (xs ++ [v]).length) = _
    rw [if_pos (by decide), List.length_append, List.length_singleton]
    omega
  unfold cutV
  rw [e]
  show List.take (xs.length - 0) (List.drop 0 _) = _
  rw [Nat.sub_zero, List.drop_zero, List.take_left]
/-! ### d.update(d2); ValueError.__init__ -/
theorem find_vei {K : PySem.W.Frag} : PySem.W.findCls K (.type "ValueError") (.type "type") "__init__" = some (.val (.builtin "ValueError.__init__")) := by kernel_rfl
def tDUpd (td ty : TE) : TE := fun σ H Q => td σ H fun x H1 => ∃ a, x = .ref a ∧ IsD H1 a ∧ ty σ H1 fun y H2 => ∃ (b : Addr) (kvs more : List (Key × V)), y = .ref b ∧ a ≠ b ∧ H2 a = some (.dK kvs) ∧ H2 b = some (.dK more) ∧ kvs.length + more.length ≤ 1000 ∧ Q .non (upd H2 a (.dK (mergeK kvs more)))
section
variable {X : Cx} {pins : List (Addr × Obj)} {σ : L2.St} {H : Hp} {s : Shared} {a b : Addr} {kvs more : List (Key × V)} {A : Around} {E : Value → Shared → Prop}
theorem d_update {Q : Value → Shared → Prop} (I : Inv X pins σ H s) (e : H a = some (.dK kvs)) (e2 : H b = some (.dK more)) (ne : a ≠ b) (hl : kvs.length + more.length ≤ 1000)
    (h : ∀ s', Inv X pins σ (upd H a (.dK (mergeK kvs more))) s' → Q .none s') : wpAny (model X.prog X.w) A (call (.builtin "dict.update") [.ref a, .ref b]) Q E s := by
  obtain ⟨z, hd, vs, rel, dd⟩ := dk_of I.hok e
  obtain ⟨z2, hd2, ws, rel2, dd2⟩ := dk_of I.hok e2
  have hz : vs.length + ws.length ≤ sizeLine := by
    rw [← rel.length, ← rel2.length]
    rw [sizeLine_eq]
    omega
  refine call_meetsIn PySem.F.slot_dict_update dd.typeIs PySem.F.entry_dict_update (PySem.F.args_dict_update_2 _ _) (meets_dict_update (mixKind X.prog X.w) a b ne hd2) ⟨vs, ws, dd, dd2, hz, fun h' dd' _ hs => h _ ?_⟩
  have he : ∃ q, h'.get? a = some q := let ⟨q, _, _, hq, _⟩ := dd'; ⟨q, hq⟩
  have hlen : (mergeK kvs more).length ≤ sizeLine := by
    refine Nat.le_trans (length_mergeK more kvs) ?_
    rw [sizeLine_eq]
    omega
  exact d_write (t' := s.toks) I (by rw [e]; exact True.intro) hs he (dk_new hlen hd (KV.merge rel2 rel) dd')
end
section
variable {X : Cx} {o e : Expr} {apos cpos : Pos} {td ty : TE}
theorem pe_dupd (ho : PE X o td) (he : PE X e ty) (m : M1 X o "update" apos e cpos) : PE X (.Call (.Attribute o "update" apos) [e] [] cpos) (tDUpd td ty) := by
  refine ⟨fun pins s σ H Q I h => ?_⟩
  refine wpAny_Call_method m.base m.few m.line PySem.F.plainAttrs_dict PySem.F.slot_dict_update PySem.F.type_dict_update (thn (ho.run pins s σ H _ I h) fun u s1 ⟨x, H1, I1, rx, a, ex, d, q1⟩ => ?_)
  subst ex
  obtain rfl : u = Value.ref a := rx
  obtain ⟨t1, t2, _⟩ := isD_at I1 d
  refine ⟨t1, t2, ?_⟩
  rw [m.trees]
  refine Calls.callWith_builtin rfl (Calls.evalArgs_plain (Calls.spliced_cons (thn (he.run pins s1 σ H1 _ I1 q1) fun iv s2 ⟨y, H2, I2, ry, b, kvs, more, ey, ne, ea, eb, hl, q2⟩ => Calls.spliced_nil ?_)))
  subst ey
  obtain rfl : iv = Value.ref b := ry
  exact d_update I2 ea eb ne hl fun s3 I3 => ⟨.non, _, I3, rfl, q2⟩
end
theorem s_dupd {td ty : TE} {σ : L2.St} {H : Hp} {Q : VK} (h : td σ H fun x H1 => ∃ a, x = .ref a ∧ IsD H1 a ∧ ty σ H1 fun y H2 => ∃ (b : Addr) (kvs more : List (Key × V)), y = .ref b ∧ a ≠ b ∧ H2 a = some (.dK kvs) ∧ H2 b = some (.dK more) ∧ kvs.length + more.length ≤ 1000 ∧ Q .non (upd H2 a (.dK (mergeK kvs more)))) : tDUpd td ty σ H Q := h
/-- list(range(n)) -/
def zRgL (x : V) (H : Hp) (Q : VK) : Prop := ∃ n, x = .int n ∧ RgOk 0 n ∧ ∀ q, H q = none → Q (.ref q) (upd H q (.lst (rgV 0 n)))
theorem s_lstRg {ta : TE} {σ : L2.St} {H : Hp} {Q : VK} (h : ta σ H fun x H1 => zRgL x H1 Q) : tLstRg (tRg1 ta) σ H Q := h
theorem s_zRgL {n : Int} {H : Hp} {Q : VK} (h1 : 0 ≤ n ∧ n ≤ 1000000) (h : ∀ q, H q = none → Q (.ref q) (upd H q (.lst (((List.range n.toNat).map fun i : Nat => (i : Int)).map V.int)))) : zRgL (.int n) H Q :=
  ⟨n, rfl, ⟨by omega, by omega, by omega, by omega, by omega⟩, fun q hq => by
    have e : rgV 0 n = ((List.range n.toNat).map fun i : Nat => (i : Int)).map V.int := by
      unfold rgV
      rw [Int.sub_zero, List.map_map]
      apply List.map_congr_left
      intro i _
      show V.int (0 + (i : Int)) = V.int (i : Int)
      rw [Int.zero_add]
    rw [e]; exact h q hq⟩
theorem merge {P : Hp → Prop} {G : Prop} (C : Hp → Prop) (h : (∀ H', C H' → P H') → G) (k : ∀ H', C H' → P H') : G := h k
theorem s_andp {u : TT} {σ : L2.St} {H : Hp} {QB : Bool → Hp → Prop} {k : Bool} (k2 : Bool) (hu : QB k2 H → u σ H QB) (h : QB (k && k2) H) : zIf k (u σ H QB) (QB false H) := by
  cases k
  · exact s_iff h
  · exact s_ift (hu h)
end Z


namespace My
open PySem Z
open L2 hiding rLen Same Same.refl Same.trans Same.free Same.seq Same.made
variable [TQ]

/-- where the top's things stand -/
structure Adr where
  K : PySem.W.Frag
  mg : Str → Option Value
  t_NUMBER : Tok
  t_GET : Tok
  t_SET : Tok
  t_ALL : Tok
  t_PICK : Tok
  t_LOOP : Tok
  t_CALL : Tok
  t_FAIL : Tok
  t_PUT : Tok
  t_SIZE : Tok
  t_NEW : Tok
  t_MOST_FUNCTIONS : Tok
  t_MOST_PARAMS : Tok
  t_MOST_BOXES : Tok
  t_MOST_PARTS : Tok
  t_MOST_DEEP : Tok
  c_ChainError : Addr
  c_NoSheet : Addr
  c_Look : Addr
  f_NoSheet_init : Addr
  d_NoSheet_init : FuncData
  f_parts_of : Addr
  d_parts_of : FuncData
  f_Look_init : Addr
  d_Look_init : FuncData
  f_Look_due : Addr
  d_Look_due : FuncData
  f_Look_within : Addr
  d_Look_within : FuncData
  f_heads_in : Addr
  d_heads_in : FuncData
  f_own_numbers : Addr
  d_own_numbers : FuncData
  f_node_in : Addr
  d_node_in : FuncData
  f_functions : Addr
  d_functions : FuncData
  f_wrong : Addr
  d_wrong : FuncData
  f_nodes_in : Addr
  d_nodes_in : FuncData
  f_nodes : Addr
  d_nodes : FuncData
  f_Lmixed : Addr
  d_Lmixed : FuncData
  f_Ltake : Addr
  d_Ltake : FuncData
  f_Lheads : Addr
  d_Lheads : FuncData
  f_Lnumber : Addr
  d_Lnumber : FuncData
  f_Lleaf : Addr
  d_Lleaf : FuncData
  f_Lhead : Addr
  d_Lhead : FuncData
  f_Lnode : Addr
  d_Lnode : FuncData
  f_Lsheet : Addr
  d_Lsheet : FuncData
  f_Lsheet_with : Addr
  d_Lsheet_with : FuncData
  f_Lmany : Addr
  d_Lmany : FuncData
  f_Ldepth : Addr
  d_Ldepth : FuncData
  f_Ldepths : Addr
  d_Ldepths : FuncData
  f_Lin_function : Addr
  d_Lin_function : FuncData
  f_Lheads_of : Addr
  d_Lheads_of : FuncData
  f_Lput : Addr
  d_Lput : FuncData
  f_Lall_bare : Addr
  d_Lall_bare : FuncData
  f_Lexchanged : Addr
  d_Lexchanged : FuncData
  f_law : Addr
  d_law : FuncData
/-- what is known of them -/
structure Top (Z : Adr) : Prop where
  g_NUMBER : Z.mg "NUMBER" = some (.int 0 Z.t_NUMBER)
  g_GET : Z.mg "GET" = some (.int 1 Z.t_GET)
  g_SET : Z.mg "SET" = some (.int 2 Z.t_SET)
  g_ALL : Z.mg "ALL" = some (.int 3 Z.t_ALL)
  g_PICK : Z.mg "PICK" = some (.int 4 Z.t_PICK)
  g_LOOP : Z.mg "LOOP" = some (.int 5 Z.t_LOOP)
  g_CALL : Z.mg "CALL" = some (.int 6 Z.t_CALL)
  g_FAIL : Z.mg "FAIL" = some (.int 7 Z.t_FAIL)
  g_PUT : Z.mg "PUT" = some (.int 17 Z.t_PUT)
  g_SIZE : Z.mg "SIZE" = some (.int 18 Z.t_SIZE)
  g_NEW : Z.mg "NEW" = some (.int 19 Z.t_NEW)
  g_MOST_FUNCTIONS : Z.mg "MOST_FUNCTIONS" = some (.int 16 Z.t_MOST_FUNCTIONS)
  g_MOST_PARAMS : Z.mg "MOST_PARAMS" = some (.int 4 Z.t_MOST_PARAMS)
  g_MOST_BOXES : Z.mg "MOST_BOXES" = some (.int 12 Z.t_MOST_BOXES)
  g_MOST_PARTS : Z.mg "MOST_PARTS" = some (.int 12 Z.t_MOST_PARTS)
  g_MOST_DEEP : Z.mg "MOST_DEEP" = some (.int 10 Z.t_MOST_DEEP)
  n_abs : Z.mg "abs" = none
  n_int : Z.mg "int" = none
  n_isinstance : Z.mg "isinstance" = none
  n_len : Z.mg "len" = none
  n_list : Z.mg "list" = none
  n_max : Z.mg "max" = none
  n_range : Z.mg "range" = none
  n_tuple : Z.mg "tuple" = none
  F_NoSheet_init : Fun Z.K "__init__" "NoSheet.__init__" st_NoSheet_init Z.f_NoSheet_init Z.d_NoSheet_init
  b_NoSheet_init : Binds Z.K Z.d_NoSheet_init ["self", "place", "word"] []
  F_parts_of : Fun Z.K "parts_of" "parts_of" st_parts_of Z.f_parts_of Z.d_parts_of
  m_parts_of : Z.mg "parts_of" = some (.ref Z.f_parts_of)
  b_parts_of : Binds Z.K Z.d_parts_of ["kind"] []
  F_Look_init : Fun Z.K "__init__" "Look.__init__" st_Look_init Z.f_Look_init Z.d_Look_init
  b_Look_init : Binds Z.K Z.d_Look_init ["self", "numbers"] []
  F_Look_due : Fun Z.K "due" "Look.due" st_Look_due Z.f_Look_due Z.d_Look_due
  b_Look_due : Binds Z.K Z.d_Look_due ["self"] []
  F_Look_within : Fun Z.K "within" "Look.within" st_Look_within Z.f_Look_within Z.d_Look_within
  b_Look_within : Binds Z.K Z.d_Look_within ["self", "low", "high"] []
  F_heads_in : Fun Z.K "heads_in" "heads_in" st_heads_in Z.f_heads_in Z.d_heads_in
  m_heads_in : Z.mg "heads_in" = some (.ref Z.f_heads_in)
  b_heads_in : Binds Z.K Z.d_heads_in ["look"] []
  F_own_numbers : Fun Z.K "own_numbers" "own_numbers" st_own_numbers Z.f_own_numbers Z.d_own_numbers
  m_own_numbers : Z.mg "own_numbers" = some (.ref Z.f_own_numbers)
  b_own_numbers : Binds Z.K Z.d_own_numbers ["look", "heads", "boxes", "kind"] []
  F_node_in : Fun Z.K "node_in" "node_in" st_node_in Z.f_node_in Z.d_node_in
  m_node_in : Z.mg "node_in" = some (.ref Z.f_node_in)
  b_node_in : Binds Z.K Z.d_node_in ["look", "heads", "boxes", "deep"] []
  F_functions : Fun Z.K "functions" "functions" st_functions Z.f_functions Z.d_functions
  m_functions : Z.mg "functions" = some (.ref Z.f_functions)
  b_functions : Binds Z.K Z.d_functions ["sheet"] []
  F_wrong : Fun Z.K "wrong" "wrong" st_wrong Z.f_wrong Z.d_wrong
  m_wrong : Z.mg "wrong" = some (.ref Z.f_wrong)
  b_wrong : Binds Z.K Z.d_wrong ["numbers"] []
  F_nodes_in : Fun Z.K "nodes_in" "nodes_in" st_nodes_in Z.f_nodes_in Z.d_nodes_in
  m_nodes_in : Z.mg "nodes_in" = some (.ref Z.f_nodes_in)
  b_nodes_in : Binds Z.K Z.d_nodes_in ["node"] []
  F_nodes : Fun Z.K "nodes" "nodes" st_nodes Z.f_nodes Z.d_nodes
  m_nodes : Z.mg "nodes" = some (.ref Z.f_nodes)
  b_nodes : Binds Z.K Z.d_nodes ["sheet"] []
  F_Lmixed : Fun Z.K "_law_mixed" "_law_mixed" st_Lmixed Z.f_Lmixed Z.d_Lmixed
  m_Lmixed : Z.mg "_law_mixed" = some (.ref Z.f_Lmixed)
  b_Lmixed : Binds Z.K Z.d_Lmixed ["_law_cell", "_law_k"] []
  F_Ltake : Fun Z.K "_law_take" "_law_take" st_Ltake Z.f_Ltake Z.d_Ltake
  m_Ltake : Z.mg "_law_take" = some (.ref Z.f_Ltake)
  b_Ltake : Binds Z.K Z.d_Ltake ["_law_state", "_law_many_here"] []
  F_Lheads : Fun Z.K "_law_heads" "_law_heads" st_Lheads Z.f_Lheads Z.d_Lheads
  m_Lheads : Z.mg "_law_heads" = some (.ref Z.f_Lheads)
  b_Lheads : Binds Z.K Z.d_Lheads ["_law_state"] []
  F_Lnumber : Fun Z.K "_law_number" "_law_number" st_Lnumber Z.f_Lnumber Z.d_Lnumber
  m_Lnumber : Z.mg "_law_number" = some (.ref Z.f_Lnumber)
  b_Lnumber : Binds Z.K Z.d_Lnumber ["_law_state"] []
  F_Lleaf : Fun Z.K "_law_leaf" "_law_leaf" st_Lleaf Z.f_Lleaf Z.d_Lleaf
  m_Lleaf : Z.mg "_law_leaf" = some (.ref Z.f_Lleaf)
  b_Lleaf : Binds Z.K Z.d_Lleaf ["_law_state", "_law_boxes"] []
  F_Lhead : Fun Z.K "_law_head" "_law_head" st_Lhead Z.f_Lhead Z.d_Lhead
  m_Lhead : Z.mg "_law_head" = some (.ref Z.f_Lhead)
  b_Lhead : Binds Z.K Z.d_Lhead ["_law_state", "_law_heads_here", "_law_boxes"] []
  F_Lnode : Fun Z.K "_law_node" "_law_node" st_Lnode Z.f_Lnode Z.d_Lnode
  m_Lnode : Z.mg "_law_node" = some (.ref Z.f_Lnode)
  b_Lnode : Binds Z.K Z.d_Lnode ["_law_state", "_law_heads_here", "_law_boxes", "_law_deep", "_law_room"] []
  F_Lsheet : Fun Z.K "_law_sheet" "_law_sheet" st_Lsheet Z.f_Lsheet Z.d_Lsheet
  m_Lsheet : Z.mg "_law_sheet" = some (.ref Z.f_Lsheet)
  b_Lsheet : Binds Z.K Z.d_Lsheet ["_law_state", "_law_most"] []
  F_Lsheet_with : Fun Z.K "_law_sheet_with" "_law_sheet_with" st_Lsheet_with Z.f_Lsheet_with Z.d_Lsheet_with
  m_Lsheet_with : Z.mg "_law_sheet_with" = some (.ref Z.f_Lsheet_with)
  b_Lsheet_with : Binds Z.K Z.d_Lsheet_with ["_law_state", "_law_heads_here", "_law_most"] []
  F_Lmany : Fun Z.K "_law_many" "_law_many" st_Lmany Z.f_Lmany Z.d_Lmany
  m_Lmany : Z.mg "_law_many" = some (.ref Z.f_Lmany)
  b_Lmany : Binds Z.K Z.d_Lmany ["_law_node_here"] []
  F_Ldepth : Fun Z.K "_law_depth" "_law_depth" st_Ldepth Z.f_Ldepth Z.d_Ldepth
  m_Ldepth : Z.mg "_law_depth" = some (.ref Z.f_Ldepth)
  b_Ldepth : Binds Z.K Z.d_Ldepth ["_law_node_here"] []
  F_Ldepths : Fun Z.K "_law_depths" "_law_depths" st_Ldepths Z.f_Ldepths Z.d_Ldepths
  m_Ldepths : Z.mg "_law_depths" = some (.ref Z.f_Ldepths)
  b_Ldepths : Binds Z.K Z.d_Ldepths ["_law_some"] []
  F_Lin_function : Fun Z.K "_law_in_function" "_law_in_function" st_Lin_function Z.f_Lin_function Z.d_Lin_function
  m_Lin_function : Z.mg "_law_in_function" = some (.ref Z.f_Lin_function)
  b_Lin_function : Binds Z.K Z.d_Lin_function ["_law_depths_here", "_law_function"] []
  F_Lheads_of : Fun Z.K "_law_heads_of" "_law_heads_of" st_Lheads_of Z.f_Lheads_of Z.d_Lheads_of
  m_Lheads_of : Z.mg "_law_heads_of" = some (.ref Z.f_Lheads_of)
  b_Lheads_of : Binds Z.K Z.d_Lheads_of ["_law_sheet_here"] []
  F_Lput : Fun Z.K "_law_put" "_law_put" st_Lput Z.f_Lput Z.d_Lput
  m_Lput : Z.mg "_law_put" = some (.ref Z.f_Lput)
  b_Lput : Binds Z.K Z.d_Lput ["_law_sheet_here", "_law_node_here", "_law_numbers"] []
  F_Lall_bare : Fun Z.K "_law_all_bare" "_law_all_bare" st_Lall_bare Z.f_Lall_bare Z.d_Lall_bare
  m_Lall_bare : Z.mg "_law_all_bare" = some (.ref Z.f_Lall_bare)
  b_Lall_bare : Binds Z.K Z.d_Lall_bare ["_law_some"] []
  F_Lexchanged : Fun Z.K "_law_exchanged" "_law_exchanged" st_Lexchanged Z.f_Lexchanged Z.d_Lexchanged
  m_Lexchanged : Z.mg "_law_exchanged" = some (.ref Z.f_Lexchanged)
  b_Lexchanged : Binds Z.K Z.d_Lexchanged ["_law_sheet_here", "_law_some", "_law_at", "_law_numbers", "_law_deep"] []
  F_law : Fun Z.K "law" "law" st_law Z.f_law Z.d_law
  m_law : Z.mg "law" = some (.ref Z.f_law)
  b_law : Binds Z.K Z.d_law ["_law_script"] []
  g_Look : Z.mg "Look" = some (.ref Z.c_Look)
  cl_Look : Cls Z.K Z.c_Look
  M_Look : Mk Z.K Z.c_Look Z.f_Look_init
  mt_Look_due : Meth Z.K Z.c_Look "due" Z.f_Look_due
  mt_Look_within : Meth Z.K Z.c_Look "within" Z.f_Look_within
  na_Look_numbers : NoAttr Z.K Z.c_Look "numbers"
  na_Look_place : NoAttr Z.K Z.c_Look "place"
  g_ChainError : Z.mg "ChainError" = some (.ref Z.c_ChainError)
  ri_ChainError : PySem.W.readsIn Z.K Z.c_ChainError (.type "type") = true
  rs_ChainError : PySem.W.specialIn Z.K (.ref Z.c_ChainError) "__getattribute__" = some (some (.builtin "type.__getattribute__"))
  rv_ChainError : PySem.W.findCls Z.K (.ref Z.c_ChainError) (.type "type") "__init__" = some (.val (.builtin "ValueError.__init__"))
  g_NoSheet : Z.mg "NoSheet" = some (.ref Z.c_NoSheet)
  ox_NoSheet : OexC Z.K Z.c_NoSheet
  xf_NoSheet : XfC Z.K Z.c_NoSheet
  oi_NoSheet : PySem.W.findIn Z.K (.ref Z.c_NoSheet) "__init__" = some (some (.ref Z.f_NoSheet_init))
  ot_NoSheet : PySem.W.typeIn Z.K (.ref Z.f_NoSheet_init) = some (.type "function")
  na_NoSheet_place : PySem.W.findIn Z.K (.ref Z.c_NoSheet) "place" = some none
  na_NoSheet_word : PySem.W.findIn Z.K (.ref Z.c_NoSheet) "word" = some none
  ex_NoSheet_NoSheet : PySem.W.exmOne Z.K (.ref Z.c_NoSheet) (.ref Z.c_NoSheet) = some true
theorem Top.k_all {Z : Adr} (_ : Top Z) : True := trivial
theorem Top.k_NoSheet_init {Z : Adr} (T : Top Z) : PySem.W.keepIn Z.K (.ref Z.f_NoSheet_init) = true := T.F_NoSheet_init.kp
theorem Top.k_parts_of {Z : Adr} (T : Top Z) : PySem.W.keepIn Z.K (.ref Z.f_parts_of) = true := T.F_parts_of.kp
theorem Top.k_Look_init {Z : Adr} (T : Top Z) : PySem.W.keepIn Z.K (.ref Z.f_Look_init) = true := T.F_Look_init.kp
theorem Top.k_Look_due {Z : Adr} (T : Top Z) : PySem.W.keepIn Z.K (.ref Z.f_Look_due) = true := T.F_Look_due.kp
theorem Top.k_Look_within {Z : Adr} (T : Top Z) : PySem.W.keepIn Z.K (.ref Z.f_Look_within) = true := T.F_Look_within.kp
theorem Top.k_heads_in {Z : Adr} (T : Top Z) : PySem.W.keepIn Z.K (.ref Z.f_heads_in) = true := T.F_heads_in.kp
theorem Top.k_own_numbers {Z : Adr} (T : Top Z) : PySem.W.keepIn Z.K (.ref Z.f_own_numbers) = true := T.F_own_numbers.kp
theorem Top.k_node_in {Z : Adr} (T : Top Z) : PySem.W.keepIn Z.K (.ref Z.f_node_in) = true := T.F_node_in.kp
theorem Top.k_functions {Z : Adr} (T : Top Z) : PySem.W.keepIn Z.K (.ref Z.f_functions) = true := T.F_functions.kp
theorem Top.k_wrong {Z : Adr} (T : Top Z) : PySem.W.keepIn Z.K (.ref Z.f_wrong) = true := T.F_wrong.kp
theorem Top.k_nodes_in {Z : Adr} (T : Top Z) : PySem.W.keepIn Z.K (.ref Z.f_nodes_in) = true := T.F_nodes_in.kp
theorem Top.k_nodes {Z : Adr} (T : Top Z) : PySem.W.keepIn Z.K (.ref Z.f_nodes) = true := T.F_nodes.kp
theorem Top.k_Lmixed {Z : Adr} (T : Top Z) : PySem.W.keepIn Z.K (.ref Z.f_Lmixed) = true := T.F_Lmixed.kp
theorem Top.k_Ltake {Z : Adr} (T : Top Z) : PySem.W.keepIn Z.K (.ref Z.f_Ltake) = true := T.F_Ltake.kp
theorem Top.k_Lheads {Z : Adr} (T : Top Z) : PySem.W.keepIn Z.K (.ref Z.f_Lheads) = true := T.F_Lheads.kp
theorem Top.k_Lnumber {Z : Adr} (T : Top Z) : PySem.W.keepIn Z.K (.ref Z.f_Lnumber) = true := T.F_Lnumber.kp
theorem Top.k_Lleaf {Z : Adr} (T : Top Z) : PySem.W.keepIn Z.K (.ref Z.f_Lleaf) = true := T.F_Lleaf.kp
theorem Top.k_Lhead {Z : Adr} (T : Top Z) : PySem.W.keepIn Z.K (.ref Z.f_Lhead) = true := T.F_Lhead.kp
theorem Top.k_Lnode {Z : Adr} (T : Top Z) : PySem.W.keepIn Z.K (.ref Z.f_Lnode) = true := T.F_Lnode.kp
theorem Top.k_Lsheet {Z : Adr} (T : Top Z) : PySem.W.keepIn Z.K (.ref Z.f_Lsheet) = true := T.F_Lsheet.kp
theorem Top.k_Lsheet_with {Z : Adr} (T : Top Z) : PySem.W.keepIn Z.K (.ref Z.f_Lsheet_with) = true := T.F_Lsheet_with.kp
theorem Top.k_Lmany {Z : Adr} (T : Top Z) : PySem.W.keepIn Z.K (.ref Z.f_Lmany) = true := T.F_Lmany.kp
theorem Top.k_Ldepth {Z : Adr} (T : Top Z) : PySem.W.keepIn Z.K (.ref Z.f_Ldepth) = true := T.F_Ldepth.kp
theorem Top.k_Ldepths {Z : Adr} (T : Top Z) : PySem.W.keepIn Z.K (.ref Z.f_Ldepths) = true := T.F_Ldepths.kp
theorem Top.k_Lin_function {Z : Adr} (T : Top Z) : PySem.W.keepIn Z.K (.ref Z.f_Lin_function) = true := T.F_Lin_function.kp
theorem Top.k_Lheads_of {Z : Adr} (T : Top Z) : PySem.W.keepIn Z.K (.ref Z.f_Lheads_of) = true := T.F_Lheads_of.kp
theorem Top.k_Lput {Z : Adr} (T : Top Z) : PySem.W.keepIn Z.K (.ref Z.f_Lput) = true := T.F_Lput.kp
theorem Top.k_Lall_bare {Z : Adr} (T : Top Z) : PySem.W.keepIn Z.K (.ref Z.f_Lall_bare) = true := T.F_Lall_bare.kp
theorem Top.k_Lexchanged {Z : Adr} (T : Top Z) : PySem.W.keepIn Z.K (.ref Z.f_Lexchanged) = true := T.F_Lexchanged.kp
theorem Top.k_law {Z : Adr} (T : Top Z) : PySem.W.keepIn Z.K (.ref Z.f_law) = true := T.F_law.kp
def fs_Look (v_numbers v_place : V) : List (Str × V) := [(("numbers" : Str), v_numbers), (("place" : Str), v_place)]
def fi_Look_1 (v_numbers : V) : List (Str × V) := [(("numbers" : Str), v_numbers)]
theorem get_Look_numbers {v_numbers v_place : V} : (fs_Look v_numbers v_place).lookup ("numbers" : Str) = some v_numbers := by unfold fs_Look; rw [lk_eq]
theorem put_Look_numbers {v_numbers v_place y : V} : putF ("numbers" : Str) y (fs_Look v_numbers v_place) = fs_Look y v_place := by unfold fs_Look; rw [pu_eq]
theorem fg_Look_numbers {Z : Adr} (T : Top Z) {H : Hp} {p dx : Addr} {v_numbers v_place : V} {Q : VK} (h1 : H p = some (.ins Z.c_Look dx (fs_Look v_numbers v_place))) (q : Q v_numbers H) : zFld Z.K (.ref p) ("numbers" : Str) H Q := s_zFld h1 T.cl_Look T.na_Look_numbers get_Look_numbers q
theorem fp_Look_numbers {Z : Adr} (T : Top Z) {H : Hp} {p dx : Addr} {v_numbers v_place y : V} {N1 : Hp → Prop} (h1 : H p = some (.ins Z.c_Look dx (fs_Look v_numbers v_place))) (h : ∀ H', But p H H' → H' p = some (.ins Z.c_Look dx (fs_Look y v_place)) → N1 H') : zPutF Z.K (.ref p) ("numbers" : Str) y H N1 := c_fld h1 T.cl_Look T.na_Look_numbers (by show 2 < 1000; decide) put_Look_numbers h
theorem fn_Look_numbers {Z : Adr} (T : Top Z) {H : Hp} {p dx : Addr} { y : V} {N1 : Hp → Prop} (h1 : H p = some (.ins Z.c_Look dx [])) (h : ∀ H', But p H H' → H' p = some (.ins Z.c_Look dx (fi_Look_1  y)) → N1 H') : zPutF Z.K (.ref p) ("numbers" : Str) y H N1 := c_fld h1 T.cl_Look T.na_Look_numbers (by show 0 < 1000; decide) (by rw [pu_nil]; rfl) h
theorem get_Look_place {v_numbers v_place : V} : (fs_Look v_numbers v_place).lookup ("place" : Str) = some v_place := by unfold fs_Look; rw [lk_ne (by decide +kernel), lk_eq]
theorem put_Look_place {v_numbers v_place y : V} : putF ("place" : Str) y (fs_Look v_numbers v_place) = fs_Look v_numbers y := by unfold fs_Look; rw [pu_ne (by decide +kernel), pu_eq]
theorem fg_Look_place {Z : Adr} (T : Top Z) {H : Hp} {p dx : Addr} {v_numbers v_place : V} {Q : VK} (h1 : H p = some (.ins Z.c_Look dx (fs_Look v_numbers v_place))) (q : Q v_place H) : zFld Z.K (.ref p) ("place" : Str) H Q := s_zFld h1 T.cl_Look T.na_Look_place get_Look_place q
theorem fp_Look_place {Z : Adr} (T : Top Z) {H : Hp} {p dx : Addr} {v_numbers v_place y : V} {N1 : Hp → Prop} (h1 : H p = some (.ins Z.c_Look dx (fs_Look v_numbers v_place))) (h : ∀ H', But p H H' → H' p = some (.ins Z.c_Look dx (fs_Look v_numbers y)) → N1 H') : zPutF Z.K (.ref p) ("place" : Str) y H N1 := c_fld h1 T.cl_Look T.na_Look_place (by show 2 < 1000; decide) put_Look_place h
theorem fn_Look_place {Z : Adr} (T : Top Z) {H : Hp} {p dx : Addr} {v_numbers y : V} {N1 : Hp → Prop} (h1 : H p = some (.ins Z.c_Look dx (fi_Look_1 v_numbers))) (h : ∀ H', But p H H' → H' p = some (.ins Z.c_Look dx (fs_Look v_numbers y)) → N1 H') : zPutF Z.K (.ref p) ("place" : Str) y H N1 := c_fld h1 T.cl_Look T.na_Look_place (by show 1 < 1000; decide) (by unfold fi_Look_1; rw [pu_ne (by decide +kernel), pu_nil]; rfl) h
theorem nx_Look_due {v_numbers v_place : V} : (fs_Look v_numbers v_place).lookup ("due" : Str) = none := by unfold fs_Look; rw [lk_ne (by decide +kernel), lk_ne (by decide +kernel)]; rfl
theorem ms_Look_due {Z : Adr} {H : Hp} {p dx : Addr} {v_numbers v_place : V} {N1 : Prop} (h1 : H p = some (.ins Z.c_Look dx (fs_Look v_numbers v_place))) (h : N1) : zSelf Z.c_Look ("due" : Str) (.ref p) H N1 := s_zself h1 nx_Look_due h
theorem nx_Look_within {v_numbers v_place : V} : (fs_Look v_numbers v_place).lookup ("within" : Str) = none := by unfold fs_Look; rw [lk_ne (by decide +kernel), lk_ne (by decide +kernel)]; rfl
theorem ms_Look_within {Z : Adr} {H : Hp} {p dx : Addr} {v_numbers v_place : V} {N1 : Prop} (h1 : H p = some (.ins Z.c_Look dx (fs_Look v_numbers v_place))) (h : N1) : zSelf Z.c_Look ("within" : Str) (.ref p) H N1 := s_zself h1 nx_Look_within h
/-! ### nodes as trees -/
inductive Nd where
  | mk (kind place : Int) (nums : List Int) (parts : List Nd)
def Nd.kind : Nd → Int
  | .mk k _ _ _ => k
def Nd.place : Nd → Int
  | .mk _ p _ _ => p
def Nd.nums : Nd → List Int
  | .mk _ _ ns _ => ns
def Nd.parts : Nd → List Nd
  | .mk _ _ _ ps => ps
mutual
/-- a node as it lies: tuples all through -/
def NodeAt (H : Hp) : Nd → V → Prop
  | .mk k p ns ps, v => ∃ (t tn tp : Addr) (vs : List V), v = .ref t ∧ H t = some (.tup [.int k, .int p, .ref tn, .ref tp]) ∧ H tn = some (.tup (ns.map V.int)) ∧ H tp = some (.tup vs) ∧ NodesAt H ps vs
def NodesAt (H : Hp) : List Nd → List V → Prop
  | [], vs => vs = []
  | n :: ns, vs => ∃ v r, vs = v :: r ∧ NodeAt H n v ∧ NodesAt H ns r
end
mutual
theorem NodeAt.mono {H H' : Hp} (S : TupS H H') : ∀ {n : Nd} {v : V}, NodeAt H n v → NodeAt H' n v
  | .mk _ _ _ _, _, ⟨t, tn, tp, vs, e, h1, h2, h3, h4⟩ => ⟨t, tn, tp, vs, e, S _ _ h1, S _ _ h2, S _ _ h3, NodesAt.mono S h4⟩
theorem NodesAt.mono {H H' : Hp} (S : TupS H H') : ∀ {ns : List Nd} {vs : List V}, NodesAt H ns vs → NodesAt H' ns vs
  | [], _, h => h
  | _ :: _, _, ⟨v, r, e, h1, h2⟩ => ⟨v, r, e, NodeAt.mono S h1, NodesAt.mono S h2⟩
end
theorem NodesAt.len {H : Hp} : ∀ {ns : List Nd} {vs : List V}, NodesAt H ns vs → vs.length = ns.length
  | [], _, h => by rw [show _ = [] from h]; rfl
  | _ :: _, _, ⟨v, r, e, _, h2⟩ => by rw [e, List.length_cons, List.length_cons, NodesAt.len h2]
theorem NodesAt.get {H : Hp} : ∀ {ns : List Nd} {vs : List V} {i : Nat} {v : V}, NodesAt H ns vs → vs[i]? = some v → ∃ n, ns[i]? = some n ∧ NodeAt H n v
  | [], _, _, _, h, e => by rw [show _ = [] from h] at e; simp at e
  | n :: _, _, 0, _, ⟨v, r, e0, h1, h2⟩, e => by rw [e0] at e; cases e; exact ⟨n, rfl, h1⟩
  | _ :: ns, _, i + 1, _, ⟨v, r, e0, h1, h2⟩, e => by
    rw [e0] at e
    obtain ⟨n, en, hn⟩ := NodesAt.get (ns := ns) (i := i) h2 (by simpa using e)
    exact ⟨n, by simpa using en, hn⟩
theorem NodesAt.app {H : Hp} : ∀ {ns : List Nd} {vs : List V} {n : Nd} {v : V}, NodesAt H ns vs → NodeAt H n v → NodesAt H (ns ++ [n]) (vs ++ [v])
  | [], _, n, v, h, hn => by rw [show _ = [] from h]; exact ⟨v, [], rfl, hn, rfl⟩
  | _ :: _, _, n, v, ⟨w, r, e, h1, h2⟩, hn => by rw [e]; exact ⟨w, r ++ [v], rfl, h1, NodesAt.app h2 hn⟩

/-! ### how a sheet is read -/
abbrev Rz (α : Type) := Except (Int × Str) α
def bindR {α β : Type} (x : Rz α) (f : α → Rz β) : Rz β := match x with
  | .ok a => f a
  | .error e => .error e
theorem bindR_ok {α β : Type} {x : Rz α} {f : α → Rz β} {b : β} (h : bindR x f = .ok b) : ∃ a, x = .ok a ∧ f a = .ok b := by
  cases x with
  | ok a => exact ⟨a, rfl, h⟩
  | error e => cases h
theorem bindR_of {α β : Type} {x : Rz α} {f : α → Rz β} {a : α} (h : x = .ok a) : bindR x f = f a := by rw [h]; rfl
def dueP (xs : List Int) (k : Nat) : Rz Int := match xs[k]? with
  | none => .error (k, "end")
  | some v => .ok v
def withinP (xs : List Int) (k : Nat) (lo hi : Int) : Rz Int := bindR (dueP xs k) fun v => if lo ≤ v ∧ v ≤ hi then .ok v else .error (k, "range")
theorem dueP_ok {xs : List Int} {k : Nat} {v : Int} (h : dueP xs k = .ok v) : xs[k]? = some v := by
  unfold dueP at h
  split at h
  · cases h
  · cases h; assumption
theorem dueP_of {xs : List Int} {k : Nat} {v : Int} (h : xs[k]? = some v) : dueP xs k = .ok v := by unfold dueP; rw [h]
theorem withinP_ok {xs : List Int} {k : Nat} {lo hi v : Int} (h : withinP xs k lo hi = .ok v) : xs[k]? = some v ∧ lo ≤ v ∧ v ≤ hi := by
  obtain ⟨a, h1, h2⟩ := bindR_ok h
  split at h2
  · cases h2; exact ⟨dueP_ok h1, by assumption⟩
  · cases h2
theorem withinP_of {xs : List Int} {k : Nat} {lo hi v : Int} (h : xs[k]? = some v) (h1 : lo ≤ v) (h2 : v ≤ hi) : withinP xs k lo hi = .ok v := by
  unfold withinP
  rw [bindR_of (dueP_of h), if_pos ⟨h1, h2⟩]
def manyP (i : Int) : Int := if i = 19 then 0 else if i = 7 ∨ i = 18 then 1 else if i = 17 then 3 else 2
/-- a node's own numbers, how many parts it has, the place behind -/
def ownP (xs : List Int) (hs : List (Int × Int)) (bx kind : Int) (k : Nat) : Rz (List Int × Int × Nat) :=
  if kind = 0 then bindR (dueP xs k) fun v => .ok ([v], 0, k + 1)
  else if kind = 1 then bindR (withinP xs k 0 (bx - 1)) fun v => .ok ([v], 0, k + 1)
  else if kind = 2 then bindR (withinP xs k 0 (bx - 1)) fun v => .ok ([v], 1, k + 1)
  else if kind = 3 then bindR (withinP xs k 1 12) fun v => .ok ([v], v, k + 1)
  else if kind = 4 then bindR (withinP xs k 2 12) fun v => .ok ([v], v + 1, k + 1)
  else if kind = 6 then bindR (withinP xs k 0 (hs.length - 1)) fun v => .ok ([v], (hs.getD v.toNat (0, 0)).1, k + 1)
  else if kind = 5 then .ok ([], 2, k)
  else .ok ([], manyP kind, k)
def partsP (f : Nat → Rz (Nd × Nat)) : Nat → Nat → Rz (List Nd × Nat)
  | 0, k => .ok ([], k)
  | m + 1, k => bindR (partsP f m k) fun a => bindR (f a.2) fun b => .ok (a.1 ++ [b.1], b.2)
theorem partsP_pre {f : Nat → Rz (Nd × Nat)} {k : Nat} {i : Nat} : ∀ {m : Nat} {r : List Nd × Nat}, partsP f m k = .ok r → i ≤ m → ∃ r', partsP f i k = .ok r'
  | 0, r, h, hi => by
    cases Nat.le_zero.mp hi
    exact ⟨r, h⟩
  | m + 1, r, h, hi => by
    by_cases e : i = m + 1
    · subst e; exact ⟨r, h⟩
    · obtain ⟨a, h1, _⟩ := bindR_ok h
      exact partsP_pre h1 (by omega)
theorem partsP_step {f : Nat → Rz (Nd × Nat)} {k i : Nat} {r r' : List Nd × Nat} (h : partsP f (i + 1) k = .ok r) (h' : partsP f i k = .ok r') : ∃ b, f r'.2 = .ok b ∧ r = (r'.1 ++ [b.1], b.2) := by
  obtain ⟨a, h1, h2⟩ := bindR_ok h
  rw [h'] at h1
  cases h1
  obtain ⟨b, h3, h4⟩ := bindR_ok h2
  cases h4
  exact ⟨b, h3, rfl⟩
theorem partsP_len {f : Nat → Rz (Nd × Nat)} {k : Nat} : ∀ {m : Nat} {r : List Nd × Nat}, partsP f m k = .ok r → r.1.length = m
  | 0, r, h => by cases h; rfl
  | m + 1, r, h => by
    obtain ⟨a, h1, h2⟩ := bindR_ok h
    obtain ⟨b, h3, h4⟩ := bindR_ok h2
    cases h4
    rw [List.length_append, partsP_len h1]
    rfl
/-- a node: fuel is 11 - deep -/
def nodeP (xs : List Int) (hs : List (Int × Int)) (bx : Int) : Nat → Nat → Rz (Nd × Nat)
  | 0, k => .error (k, "deep")
  | f + 1, k => bindR (withinP xs k 0 19) fun kind => bindR (ownP xs hs bx kind (k + 1)) fun o => bindR (partsP (nodeP xs hs bx f) o.2.1.toNat o.2.2) fun p => .ok (.mk kind k o.1 p.1, p.2)
theorem nodeP_ok {xs : List Int} {hs : List (Int × Int)} {bx : Int} {f k : Nat} {r : Nd × Nat} (h : nodeP xs hs bx (f + 1) k = .ok r) : ∃ kind o p, xs[k]? = some kind ∧ 0 ≤ kind ∧ kind ≤ 19 ∧ ownP xs hs bx kind (k + 1) = .ok o ∧
    partsP (nodeP xs hs bx f) o.2.1.toNat o.2.2 = .ok p ∧ r = (.mk kind k o.1 p.1, p.2) := by
  unfold nodeP at h
  obtain ⟨kind, h1, h2⟩ := bindR_ok h
  obtain ⟨o, h3, h4⟩ := bindR_ok h2
  obtain ⟨p, h5, h6⟩ := bindR_ok h4
  cases h6
  obtain ⟨a, b, c⟩ := withinP_ok h1
  exact ⟨kind, o, p, a, b, c, h3, h5, rfl⟩
def headsL (xs : List Int) : Nat → Rz (List (Int × Int))
  | 0 => .ok []
  | i + 1 => bindR (headsL xs i) fun hs => bindR (withinP xs (1 + 2 * i) 0 (if 0 < i then 4 else 0)) fun p => bindR (withinP xs (2 + 2 * i) p 12) fun b => .ok (hs ++ [(p, b)])
def headsP (xs : List Int) : Rz (List (Int × Int)) := bindR (withinP xs 0 1 16) fun n => headsL xs n.toNat
theorem headsL_pre {xs : List Int} {i : Nat} : ∀ {m : Nat} {r : List (Int × Int)}, headsL xs m = .ok r → i ≤ m → ∃ r', headsL xs i = .ok r'
  | 0, r, h, hi => by
    cases Nat.le_zero.mp hi
    exact ⟨r, h⟩
  | m + 1, r, h, hi => by
    by_cases e : i = m + 1
    · subst e; exact ⟨r, h⟩
    · obtain ⟨a, h1, _⟩ := bindR_ok h
      exact headsL_pre h1 (by omega)
theorem headsL_step {xs : List Int} {i : Nat} {r r' : List (Int × Int)} (h : headsL xs (i + 1) = .ok r) (h' : headsL xs i = .ok r') : ∃ p b, withinP xs (1 + 2 * i) 0 (if 0 < i then 4 else 0) = .ok p ∧ withinP xs (2 + 2 * i) p 12 = .ok b ∧ r = r' ++ [(p, b)] := by
  obtain ⟨a, h1, h2⟩ := bindR_ok h
  rw [h'] at h1
  cases h1
  obtain ⟨p, h3, h4⟩ := bindR_ok h2
  obtain ⟨b, h5, h6⟩ := bindR_ok h4
  cases h6
  exact ⟨p, b, h3, h5, rfl⟩
theorem headsL_len {xs : List Int} : ∀ {m : Nat} {r : List (Int × Int)}, headsL xs m = .ok r → r.length = m
  | 0, r, h => by cases h; rfl
  | m + 1, r, h => by
    obtain ⟨a, h1, h2⟩ := bindR_ok h
    obtain ⟨p, h3, h4⟩ := bindR_ok h2
    obtain ⟨b, h5, h6⟩ := bindR_ok h4
    cases h6
    rw [List.length_append, headsL_len h1]
    rfl
theorem headsP_ok {xs : List Int} {hs : List (Int × Int)} (h : headsP xs = .ok hs) : 1 ≤ hs.length ∧ hs.length ≤ 16 ∧ xs[0]? = some (hs.length : Int) ∧ headsL xs hs.length = .ok hs := by
  obtain ⟨n, h1, h2⟩ := bindR_ok h
  obtain ⟨a, b, c⟩ := withinP_ok h1
  have e := headsL_len h2
  have e2 : n = (hs.length : Int) := by rw [e]; omega
  refine ⟨by omega, by omega, by rw [← e2]; exact a, by rw [e]; exact h2⟩
def bodiesP (xs : List Int) (hs : List (Int × Int)) : Nat → Nat → Rz (List Nd × Nat)
  | 0, k => .ok ([], k)
  | i + 1, k => bindR (bodiesP xs hs i k) fun a => bindR (nodeP xs hs (hs.getD i (0, 0)).2 10 a.2) fun b => .ok (a.1 ++ [b.1], b.2)
theorem bodiesP_pre {xs : List Int} {hs : List (Int × Int)} {k i : Nat} : ∀ {m : Nat} {r : List Nd × Nat}, bodiesP xs hs m k = .ok r → i ≤ m → ∃ r', bodiesP xs hs i k = .ok r'
  | 0, r, h, hi => by
    cases Nat.le_zero.mp hi
    exact ⟨r, h⟩
  | m + 1, r, h, hi => by
    by_cases e : i = m + 1
    · subst e; exact ⟨r, h⟩
    · obtain ⟨a, h1, _⟩ := bindR_ok h
      exact bodiesP_pre h1 (by omega)
theorem bodiesP_step {xs : List Int} {hs : List (Int × Int)} {k i : Nat} {r r' : List Nd × Nat} (h : bodiesP xs hs (i + 1) k = .ok r) (h' : bodiesP xs hs i k = .ok r') : ∃ b, nodeP xs hs (hs.getD i (0, 0)).2 10 r'.2 = .ok b ∧ r = (r'.1 ++ [b.1], b.2) := by
  obtain ⟨a, h1, h2⟩ := bindR_ok h
  rw [h'] at h1
  cases h1
  obtain ⟨b, h3, h4⟩ := bindR_ok h2
  cases h4
  exact ⟨b, h3, rfl⟩
theorem bodiesP_len {xs : List Int} {hs : List (Int × Int)} {k : Nat} : ∀ {m : Nat} {r : List Nd × Nat}, bodiesP xs hs m k = .ok r → r.1.length = m
  | 0, r, h => by cases h; rfl
  | m + 1, r, h => by
    obtain ⟨a, h1, h2⟩ := bindR_ok h
    obtain ⟨b, h3, h4⟩ := bindR_ok h2
    cases h4
    rw [List.length_append, bodiesP_len h1]
    rfl
/-- the functions of a sheet: heads and bodies -/
def funsP (xs : List Int) : Rz (List (Int × Int) × List Nd) := bindR (headsP xs) fun hs => bindR (bodiesP xs hs hs.length (1 + 2 * hs.length)) fun a => if a.2 < xs.length then .error (a.2, "over") else .ok (hs, a.1)
theorem funsP_ok {xs : List Int} {hs : List (Int × Int)} {bs : List Nd} (h : funsP xs = .ok (hs, bs)) : ∃ k, headsP xs = .ok hs ∧ bodiesP xs hs hs.length (1 + 2 * hs.length) = .ok (bs, k) ∧ ¬ k < xs.length := by
  obtain ⟨a, h1, h2⟩ := bindR_ok h
  obtain ⟨b, h3, h4⟩ := bindR_ok h2
  split at h4
  · cases h4
  · rename_i c
    cases h4
    exact ⟨b.2, h1, h3, c⟩
theorem headsL_all {xs : List Int} : ∀ {m : Nat} {r : List (Int × Int)}, headsL xs m = .ok r → ∀ h ∈ r, 0 ≤ h.1 ∧ h.1 ≤ 4 ∧ h.1 ≤ h.2 ∧ h.2 ≤ 12
  | 0, r, h => by cases h; intro x hx; cases hx
  | m + 1, r, h => by
    obtain ⟨a, h1, h2⟩ := bindR_ok h
    obtain ⟨p, h3, h4⟩ := bindR_ok h2
    obtain ⟨b, h5, h6⟩ := bindR_ok h4
    cases h6
    intro x hx
    rcases List.mem_append.mp hx with z | z
    · exact headsL_all h1 x z
    · rw [List.mem_singleton.mp z]
      have a1 := (withinP_ok h3).2
      have a2 := (withinP_ok h5).2
      refine ⟨a1.1, ?_, a2.1, a2.2⟩
      have := a1.2
      split at this <;> omega
theorem ownP_most {xs : List Int} {hs : List (Int × Int)} {bx kind : Int} {k : Nat} {o : List Int × Int × Nat} (hB : ∀ h ∈ hs, 0 ≤ h.1 ∧ h.1 ≤ 12) (eo : ownP xs hs bx kind k = .ok o) : 0 ≤ o.2.1 ∧ o.2.1 ≤ 13 := by
  unfold ownP at eo
  split at eo
  · obtain ⟨v, g1, g2⟩ := bindR_ok eo; cases g2; exact ⟨by show (0 : Int) ≤ 0; omega, by show (0 : Int) ≤ 13; omega⟩
  split at eo
  · obtain ⟨v, g1, g2⟩ := bindR_ok eo; cases g2; exact ⟨by show (0 : Int) ≤ 0; omega, by show (0 : Int) ≤ 13; omega⟩
  split at eo
  · obtain ⟨v, g1, g2⟩ := bindR_ok eo; cases g2; exact ⟨by show (0 : Int) ≤ 1; omega, by show (1 : Int) ≤ 13; omega⟩
  split at eo
  · obtain ⟨v, g1, g2⟩ := bindR_ok eo
    have w := (withinP_ok g1).2
    cases g2; exact ⟨by show (0 : Int) ≤ v; omega, by show v ≤ 13; omega⟩
  split at eo
  · obtain ⟨v, g1, g2⟩ := bindR_ok eo
    have w := (withinP_ok g1).2
    cases g2; exact ⟨by show (0 : Int) ≤ v + 1; omega, by show v + 1 ≤ 13; omega⟩
  split at eo
  · obtain ⟨v, g1, g2⟩ := bindR_ok eo
    have w := (withinP_ok g1).2
    cases g2
    have hv : v.toNat < hs.length := by omega
    have := hB _ (List.getElem_mem hv)
    have e : (hs.getD v.toNat (0, 0)).1 = hs[v.toNat].1 := by rw [List.getD_eq_getElem?_getD, List.getElem?_eq_getElem hv]; rfl
    show 0 ≤ (hs.getD v.toNat (0, 0)).1 ∧ (hs.getD v.toNat (0, 0)).1 ≤ 13
    rw [e]
    omega
  split at eo
  · cases eo; exact ⟨by show (0 : Int) ≤ 2; omega, by show (2 : Int) ≤ 13; omega⟩
  · cases eo
    show 0 ≤ manyP kind ∧ manyP kind ≤ 13
    unfold manyP
    repeat' split
    all_goals omega
/-! ### how places go on -/
theorem ownP_le {xs : List Int} {hs : List (Int × Int)} {bx kind : Int} {k : Nat} {o : List Int × Int × Nat} (h : ownP xs hs bx kind k = .ok o) : o.2.2 = k + o.1.length ∧ o.2.2 ≤ max k xs.length := by
  have due : ∀ {v : Int}, dueP xs k = .ok v → k + 1 ≤ xs.length := fun h => (List.getElem?_eq_some_iff.mp (dueP_ok h)).1
  have wit : ∀ {a b v : Int}, withinP xs k a b = .ok v → k + 1 ≤ xs.length := fun h => (List.getElem?_eq_some_iff.mp (withinP_ok h).1).1
  unfold ownP at h
  repeat' split at h
  all_goals first
    | (obtain ⟨v, h1, h2⟩ := bindR_ok h; cases h2; first | exact ⟨rfl, Nat.le_trans (due h1) (Nat.le_max_right _ _)⟩ | exact ⟨rfl, Nat.le_trans (wit h1) (Nat.le_max_right _ _)⟩)
    | (cases h; exact ⟨rfl, Nat.le_max_left _ _⟩)
theorem partsP_le {xs : List Int} {f : Nat → Rz (Nd × Nat)} (hf : ∀ k r, f k = .ok r → k < r.2 ∧ r.2 ≤ xs.length) {k : Nat} : ∀ {m : Nat} {r : List Nd × Nat}, partsP f m k = .ok r → k ≤ r.2 ∧ (k ≤ xs.length → r.2 ≤ xs.length)
  | 0, r, h => by cases h; exact ⟨Nat.le_refl _, fun z => z⟩
  | m + 1, r, h => by
    obtain ⟨a, h1, h2⟩ := bindR_ok h
    obtain ⟨b, h3, h4⟩ := bindR_ok h2
    cases h4
    have x := partsP_le hf h1
    have y := hf _ _ h3
    exact ⟨by show k ≤ b.2; omega, fun _ => y.2⟩
theorem nodeP_le {xs : List Int} {hs : List (Int × Int)} {bx : Int} : ∀ {f k : Nat} {r : Nd × Nat}, nodeP xs hs bx f k = .ok r → k < r.2 ∧ r.2 ≤ xs.length
  | 0, k, r, h => by unfold nodeP at h; cases h
  | f + 1, k, r, h => by
    obtain ⟨kind, o, p, h1, h2, h3, h4, h5, rfl⟩ := nodeP_ok h
    have x := ownP_le h4
    have y := partsP_le (xs := xs) (fun k r => nodeP_le (f := f) (k := k) (r := r)) h5
    have z := (List.getElem?_eq_some_iff.mp h1).1
    show k < p.2 ∧ p.2 ≤ xs.length
    have := y.2 (by omega)
    omega
theorem bodiesP_le {xs : List Int} {hs : List (Int × Int)} {k : Nat} : ∀ {m : Nat} {r : List Nd × Nat}, bodiesP xs hs m k = .ok r → k ≤ r.2 ∧ (k ≤ xs.length → r.2 ≤ xs.length)
  | 0, r, h => by cases h; exact ⟨Nat.le_refl _, fun z => z⟩
  | m + 1, r, h => by
    obtain ⟨a, h1, h2⟩ := bindR_ok h
    obtain ⟨b, h3, h4⟩ := bindR_ok h2
    cases h4
    have x := bodiesP_le h1
    have y := nodeP_le h3
    exact ⟨by show k ≤ b.2; omega, fun _ => y.2⟩
theorem funsP_len {xs : List Int} {hs : List (Int × Int)} {bs : List Nd} {k : Nat} (h1 : headsP xs = .ok hs) (h2 : bodiesP xs hs hs.length (1 + 2 * hs.length) = .ok (bs, k)) : k ≤ xs.length := by
  obtain ⟨n1, n2, e0, eL⟩ := headsP_ok h1
  obtain ⟨i, hi⟩ : ∃ i, hs.length = i + 1 := ⟨hs.length - 1, by omega⟩
  rw [hi] at h2
  obtain ⟨r', h'⟩ := bodiesP_pre h2 (i := i) (by omega)
  obtain ⟨b, h3, e⟩ := bodiesP_step h2 h'
  cases e
  exact (nodeP_le h3).2
/-- how deep a node is -/
theorem nodeP_dep {xs : List Int} {hs : List (Int × Int)} {bx : Int} : ∀ {f k : Nat} {r : Nd × Nat}, nodeP xs hs bx f k = .ok r → 1 ≤ f
  | 0, k, r, h => by unfold nodeP at h; cases h
  | f + 1, _, _, _ => by omega
theorem ownP_cut {xs : List Int} {hs : List (Int × Int)} {bx kind : Int} {k : Nat} {o : List Int × Int × Nat} (h : ownP xs hs bx kind k = .ok o) : (xs.drop k).take o.1.length = o.1 ∧ o.1.length ≤ 1 := by
  have due : ∀ {v : Int}, xs[k]? = some v → (xs.drop k).take 1 = [v] := fun h => by
    have hk := (List.getElem?_eq_some_iff.mp h)
    rw [List.drop_eq_getElem_cons hk.1, hk.2]; rfl
  unfold ownP at h
  repeat' split at h
  all_goals first
    | (obtain ⟨v, h1, h2⟩ := bindR_ok h; cases h2; first | exact ⟨due (dueP_ok h1), Nat.le_refl _⟩ | exact ⟨due (withinP_ok h1).1, Nat.le_refl _⟩)
    | (cases h; exact ⟨rfl, Nat.zero_le _⟩)
/-- where a head stands -/
theorem heads_at {xs : List Int} : ∀ {m : Nat} {r : List (Int × Int)} {i : Nat} {h : Int × Int}, headsL xs m = .ok r → r[i]? = some h → xs[1 + 2 * i]? = some h.1 ∧ xs[2 + 2 * i]? = some h.2
  | 0, r, _, _, e, hi => by cases e; simp at hi
  | m + 1, r, i, h, e, hi => by
    obtain ⟨a, h1⟩ := headsL_pre e (i := m) (by omega)
    obtain ⟨p, b, h3, h4, rfl⟩ := headsL_step e h1
    have len := headsL_len h1
    by_cases c : i < m
    · rw [List.getElem?_append_left (by omega)] at hi
      exact heads_at h1 hi
    · rw [List.getElem?_append_right (by omega)] at hi
      have : i - a.length = 0 := by
        have := (List.getElem?_eq_some_iff.mp hi).1
        simp at this
        omega
      rw [this] at hi
      cases hi
      have : i = m := by omega
      subst this
      exact ⟨(withinP_ok h3).1, (withinP_ok h4).1⟩
/-! ### in the heap -/
/-- pairs as they lie -/
def PairsAt (H : Hp) : List (Int × Int) → List V → Prop
  | [], vs => vs = []
  | h :: hs, vs => ∃ t r, vs = .ref t :: r ∧ H t = some (.tup [.int h.1, .int h.2]) ∧ PairsAt H hs r
theorem PairsAt.mono {H H' : Hp} (S : TupS H H') : ∀ {hs : List (Int × Int)} {vs : List V}, PairsAt H hs vs → PairsAt H' hs vs
  | [], _, h => h
  | _ :: _, _, ⟨t, r, e, h1, h2⟩ => ⟨t, r, e, S _ _ h1, PairsAt.mono S h2⟩
theorem PairsAt.len {H : Hp} : ∀ {hs : List (Int × Int)} {vs : List V}, PairsAt H hs vs → vs.length = hs.length
  | [], _, h => by rw [show _ = [] from h]; rfl
  | _ :: _, _, ⟨t, r, e, _, h2⟩ => by rw [e, List.length_cons, List.length_cons, PairsAt.len h2]
theorem PairsAt.get {H : Hp} : ∀ {hs : List (Int × Int)} {vs : List V} {i : Nat} {h : Int × Int}, PairsAt H hs vs → hs[i]? = some h → ∃ t, vs[i]? = some (.ref t) ∧ H t = some (.tup [.int h.1, .int h.2])
  | [], _, _, _, _, e => by simp at e
  | _ :: _, _, 0, _, ⟨t, r, e0, h1, _⟩, e => by cases e; exact ⟨t, by rw [e0]; rfl, h1⟩
  | _ :: hs, _, i + 1, h, ⟨t, r, e0, _, h2⟩, e => by
    obtain ⟨t', a, b⟩ := PairsAt.get (hs := hs) (i := i) h2 (by simpa using e)
    exact ⟨t', by rw [e0]; simpa using a, b⟩
theorem PairsAt.app {H : Hp} : ∀ {hs : List (Int × Int)} {vs : List V} {h : Int × Int} {t : Addr}, PairsAt H hs vs → H t = some (.tup [.int h.1, .int h.2]) → PairsAt H (hs ++ [h]) (vs ++ [.ref t])
  | [], _, h, t, e, ht => by rw [show _ = [] from e]; exact ⟨t, [], rfl, ht, rfl⟩
  | _ :: _, _, h, t, ⟨u, r, e, h1, h2⟩, ht => by rw [e]; exact ⟨u, r ++ [.ref t], rfl, h1, PairsAt.app h2 ht⟩
/-- functions as they lie -/
def FunsAt (H : Hp) : List (Int × Int) → List Nd → List V → Prop
  | [], [], vs => vs = []
  | h :: hs, b :: bs, vs => ∃ t vb r, vs = .ref t :: r ∧ H t = some (.tup [.int h.1, .int h.2, vb]) ∧ NodeAt H b vb ∧ FunsAt H hs bs r
  | _, _, _ => False
theorem FunsAt.mono {H H' : Hp} (S : TupS H H') : ∀ {hs : List (Int × Int)} {bs : List Nd} {vs : List V}, FunsAt H hs bs vs → FunsAt H' hs bs vs
  | [], [], _, h => h
  | _ :: _, _ :: _, _, ⟨t, vb, r, e, h1, h2, h3⟩ => ⟨t, vb, r, e, S _ _ h1, h2.mono S, FunsAt.mono S h3⟩
theorem FunsAt.len {H : Hp} : ∀ {hs : List (Int × Int)} {bs : List Nd} {vs : List V}, FunsAt H hs bs vs → vs.length = hs.length ∧ bs.length = hs.length
  | [], [], _, h => by rw [show _ = [] from h]; exact ⟨rfl, rfl⟩
  | _ :: _, _ :: _, _, ⟨t, vb, r, e, _, _, h3⟩ => by rw [e, List.length_cons, List.length_cons, List.length_cons, (FunsAt.len h3).1, (FunsAt.len h3).2]; exact ⟨rfl, rfl⟩
theorem FunsAt.get {H : Hp} : ∀ {hs : List (Int × Int)} {bs : List Nd} {vs : List V} {i : Nat} {v : V}, FunsAt H hs bs vs → vs[i]? = some v → ∃ t vb h b, v = .ref t ∧ hs[i]? = some h ∧ bs[i]? = some b ∧ H t = some (.tup [.int h.1, .int h.2, vb]) ∧ NodeAt H b vb
  | [], [], _, _, _, h, e => by rw [show _ = [] from h] at e; simp at e
  | h :: _, b :: _, _, 0, _, ⟨t, vb, r, e0, h1, h2, _⟩, e => by rw [e0] at e; cases e; exact ⟨t, vb, h, b, rfl, rfl, rfl, h1, h2⟩
  | _ :: hs, _ :: bs, _, i + 1, _, ⟨t, vb, r, e0, _, _, h3⟩, e => by
    rw [e0] at e
    obtain ⟨t', vb', h', b', a1, a2, a3, a4⟩ := FunsAt.get (hs := hs) (bs := bs) (i := i) h3 (by simpa using e)
    exact ⟨t', vb', h', b', a1, by simpa using a2, by simpa using a3, a4⟩
theorem FunsAt.app {H : Hp} : ∀ {hs : List (Int × Int)} {bs : List Nd} {vs : List V} {h : Int × Int} {b : Nd} {t : Addr} {vb : V}, FunsAt H hs bs vs → H t = some (.tup [.int h.1, .int h.2, vb]) → NodeAt H b vb → FunsAt H (hs ++ [h]) (bs ++ [b]) (vs ++ [.ref t])
  | [], [], _, h, b, t, vb, e, ht, hb => by rw [show _ = [] from e]; exact ⟨t, vb, [], rfl, ht, hb, rfl⟩
  | _ :: _, _ :: _, _, h, b, t, vb, ⟨u, vu, r, e, h1, h2, h3⟩, ht, hb => by rw [e]; exact ⟨u, vu, r ++ [.ref t], rfl, h1, h2, FunsAt.app h3 ht hb⟩

structure LookAt (Z : Adr) (H : Hp) (p dx l : Addr) (xs : List Int) (k : Nat) : Prop where
  o : H p = some (.ins Z.c_Look dx (fs_Look (.ref l) (.int k)))
  n : H l = some (.lst (xs.map V.int))
theorem LookAt.ne {Z : Adr} {H : Hp} {p dx l : Addr} {xs : List Int} {k : Nat} (h : LookAt Z H p dx l xs k) : l ≠ p := ne_of h.n h.o (by intro z; cases z)
theorem LookAt.go {Z : Adr} {H H' : Hp} {p dx l : Addr} {xs : List Int} {k j : Nat} (h : LookAt Z H p dx l xs k) (B : But p H H') (o : H' p = some (.ins Z.c_Look dx (fs_Look (.ref l) (.int j)))) : LookAt Z H' p dx l xs j := ⟨o, B.rd h.ne h.n⟩
theorem LookAt.same {Z : Adr} {H H' : Hp} {p dx l : Addr} {xs : List Int} {k : Nat} (h : LookAt Z H p dx l xs k) (S : Same H H') : LookAt Z H' p dx l xs k := ⟨S _ _ h.o, S _ _ h.n⟩
theorem LookAt.new {Z : Adr} {H : Hp} {p dx l q : Addr} {o : HO} {xs : List Int} {k : Nat} (h : LookAt Z H p dx l xs k) (hq : H q = none) : LookAt Z (upd H q o) p dx l xs k := h.same (same_new hq)
theorem LookAt.own {Z : Adr} {H H' : Hp} {p dx l q : Addr} {xs : List Int} {k : Nat} (h : LookAt Z H p dx l xs k) (B : But q H H') (n1 : p ≠ q) (n2 : l ≠ q) : LookAt Z H' p dx l xs k := ⟨B.rd n1 h.o, B.rd n2 h.n⟩
theorem LookAt.tups {Z : Adr} {H H' : Hp} {p dx l : Addr} {xs : List Int} {k : Nat} (h : LookAt Z H p dx l xs k) (B : But p H H') : TupS H H' := TupS.but B h.o fun ys e => by cases e
theorem LookAt.lst {Z : Adr} {H : Hp} {p dx l q : Addr} {xs : List Int} {ys : List V} {k : Nat} (h : LookAt Z H p dx l xs k) (hq : H q = some (.lst ys)) : q ≠ p := ne_of hq h.o (by intro z; cases z)

/-! ### the promises, whatever the list is -/
theorem bindR_err {α β : Type} {x : Rz α} {f : α → Rz β} {e : Int × Str} (h : bindR x f = .error e) : x = .error e ∨ ∃ a, x = .ok a ∧ f a = .error e := by
  cases x with
  | ok a => exact .inr ⟨a, rfl, h⟩
  | error e' => cases h; exact .inl rfl
theorem bindR_of_err {α β : Type} {x : Rz α} {f : α → Rz β} {e : Int × Str} (h : x = .error e) : bindR x f = .error e := by rw [h]; rfl
theorem dueP_err {xs : List Int} {k : Nat} {e : Int × Str} (h : dueP xs k = .error e) : e = ((k : Int), ("end" : Str)) ∧ xs.length ≤ k := by
  unfold dueP at h
  split at h
  · rename_i z
    cases h
    exact ⟨rfl, List.getElem?_eq_none_iff.mp z⟩
  · cases h
theorem partsP_err {f : Nat → Rz (Nd × Nat)} {k i : Nat} {e : Int × Str} (h : partsP f i k = .error e) : ∀ {m : Nat}, i ≤ m → partsP f m k = .error e
  | 0, hm => by cases Nat.le_zero.mp hm; exact h
  | m + 1, hm => by
    by_cases c : i = m + 1
    · subst c; exact h
    · exact bindR_of_err (partsP_err h (by omega))
theorem headsL_err {xs : List Int} {i : Nat} {e : Int × Str} (h : headsL xs i = .error e) : ∀ {m : Nat}, i ≤ m → headsL xs m = .error e
  | 0, hm => by cases Nat.le_zero.mp hm; exact h
  | m + 1, hm => by
    by_cases c : i = m + 1
    · subst c; exact h
    · exact bindR_of_err (headsL_err h (by omega))
theorem bodiesP_err {xs : List Int} {hs : List (Int × Int)} {k i : Nat} {e : Int × Str} (h : bodiesP xs hs i k = .error e) : ∀ {m : Nat}, i ≤ m → bodiesP xs hs m k = .error e
  | 0, hm => by cases Nat.le_zero.mp hm; exact h
  | m + 1, hm => by
    by_cases c : i = m + 1
    · subst c; exact h
    · exact bindR_of_err (bodiesP_err h (by omega))
def XdAt (H : Hp) (d : Addr) (er : Int × Str) : Prop := H d = some (.xd [("word", .str er.2), ("place", .int er.1)])
def ErrS (Z : Adr) (p : Addr) (H : Hp) (er : Int × Str) (E : XK) : Prop := ∀ d H', But p H H' → XdAt H' d er → E (.ref Z.c_NoSheet) (some d) H'
theorem ErrS.trans {Z : Adr} {p : Addr} {H H' : Hp} {er : Int × Str} {E : XK} (h : ErrS Z p H er E) (B : But p H H') : ErrS Z p H' er E := fun d H2 B2 x => h d H2 (B.trans B2) x
def q_NoSheet_init (Z : Adr) (s a b : V) (H : Hp) (Q : VK) (E : XK) : Prop := ∃ p, s = .ref p ∧ H p = some (exo p Z.c_NoSheet none) ∧ ∀ d, H d = none → d ≠ p →
  Q .non (upd (upd (upd H d (exd d [("place", a)])) p (exo p Z.c_NoSheet (some d))) d (exd d [("word", b), ("place", a)]))
theorem raise_NoSheet {Z : Adr} {H : Hp} {W : WX} {σ : L2.St} {k : Int} {w : Str} (h : ∀ d H', Same H H' → XdAt H' d (k, w) → W (.ref Z.c_NoSheet) (some d) σ H') : zMkO Z.c_NoSheet (Sp3 (q_NoSheet_init Z)) [.int k, .str w] H (fun cls d H' => W cls d σ H') := by
  refine ⟨by show 2 ≤ 1000; decide, fun a ha => ⟨.ref a, .int k, .str w, rfl, a, rfl, upd_same, fun d hd hda => ⟨rfl, d, [("word", .str w), ("place", .int k)], ?_, upd_same, ?_, ?_⟩⟩⟩
  · rw [upd_ne (Ne.symm hda), upd_same]
  · rw [upd_ne hda] at hd; exact hd
  · rw [upd_ne hda] at hd
    refine h d _ (.all fun b o hb => ?_) upd_same
    have n1 : b ≠ d := ne_of_none hb hd
    have n2 : b ≠ a := ne_of_none hb ha
    rw [upd_ne n1, del_ne n2, upd_ne n1, upd_ne n2, upd_ne n1, upd_ne n2]
    exact hb
def q_parts_of (Z : Adr) (a : V) (H : Hp) (Q : VK) (E : XK) : Prop := ∃ i : Int, a = .int i ∧ ∀ H', Same H H' → Q (.int (manyP i)) H'
def q_Look_init (Z : Adr) (s n : V) (H : Hp) (Q : VK) (E : XK) : Prop := ∃ p dx a xs, s = .ref p ∧ n = .ref a ∧ H p = some (.ins Z.c_Look dx []) ∧ SqL Z.K H a (xs.map V.int) ∧ ∀ l H', But p H H' → LookAt Z H' p dx l xs 0 → H l = none → Q .non H'
def q_Look_due (Z : Adr) (s : V) (H : Hp) (Q : VK) (E : XK) : Prop := ∃ p dx l xs k, s = .ref p ∧ k ≤ xs.length ∧ LookAt Z H p dx l xs k ∧ (∀ v, dueP xs k = .ok v → ∀ H', But p H H' → LookAt Z H' p dx l xs (k + 1) → Q (.int v) H') ∧ ∀ er, dueP xs k = .error er → ErrS Z p H er E
def q_Look_within (Z : Adr) (s lo hi : V) (H : Hp) (Q : VK) (E : XK) : Prop := ∃ p dx l xs k a b, s = .ref p ∧ lo = .int a ∧ hi = .int b ∧ k ≤ xs.length ∧ LookAt Z H p dx l xs k ∧ (∀ v, withinP xs k a b = .ok v → ∀ H', But p H H' → LookAt Z H' p dx l xs (k + 1) → Q (.int v) H') ∧ ∀ er, withinP xs k a b = .error er → ErrS Z p H er E
def q_heads_in (Z : Adr) (s : V) (H : Hp) (Q : VK) (E : XK) : Prop := ∃ p dx l xs, s = .ref p ∧ LookAt Z H p dx l xs 0 ∧ (∀ hs, headsP xs = .ok hs → ∀ lh vs H', But p H H' → LookAt Z H' p dx l xs (1 + 2 * hs.length) → H lh = none → H' lh = some (.lst vs) → PairsAt H' hs vs → Q (.ref lh) H') ∧ ∀ er, headsP xs = .error er → ErrS Z p H er E
def q_own_numbers (Z : Adr) (s h b c : V) (H : Hp) (Q : VK) (E : XK) : Prop := ∃ (p dx l : Addr) (xs : List Int) (k : Nat) (lh : Addr) (hs : List (Int × Int)) (vs : List V) (bx kind : Int), s = .ref p ∧ h = .ref lh ∧ b = .int bx ∧ c = .int kind ∧ k ≤ xs.length ∧ LookAt Z H p dx l xs k ∧ H lh = some (.lst vs) ∧ PairsAt H hs vs ∧
  (∀ o, ownP xs hs bx kind k = .ok o → ∀ t tn H', But p H H' → LookAt Z H' p dx l xs o.2.2 → H' t = some (.tup [.ref tn, .int o.2.1]) → H' tn = some (.tup (o.1.map V.int)) → Q (.ref t) H') ∧ ∀ er, ownP xs hs bx kind k = .error er → ErrS Z p H er E
def q_node_in (Z : Adr) (n : Nat) (s h b c : V) (H : Hp) (Q : VK) (E : XK) : Prop := ∃ (p dx l : Addr) (xs : List Int) (k : Nat) (lh : Addr) (hs : List (Int × Int)) (vs : List V) (bx d : Int) (f : Nat), s = .ref p ∧ h = .ref lh ∧ b = .int bx ∧ c = .int d ∧ d + f = 11 ∧ f + 1 ≤ n ∧ (∀ h ∈ hs, 0 ≤ h.1 ∧ h.1 ≤ 12) ∧ k ≤ xs.length ∧ LookAt Z H p dx l xs k ∧ H lh = some (.lst vs) ∧ PairsAt H hs vs ∧
  (∀ r, nodeP xs hs bx f k = .ok r → ∀ v H', But p H H' → LookAt Z H' p dx l xs r.2 → NodeAt H' r.1 v → Q v H') ∧ ∀ er, nodeP xs hs bx f k = .error er → ErrS Z p H er E
theorem no_node_in {Z : Adr} {s h b c : V} {H : Hp} {Q : VK} {E : XK} : ¬ q_node_in Z 0 s h b c H Q E := by
  rintro ⟨p, dx, l, xs, k, lh, hs, vs, bx, d, f, _, _, _, _, _, hf, _⟩
  omega
def q_functions (Z : Adr) (a : V) (H : Hp) (Q : VK) (E : XK) : Prop := ∃ ls xs, a = .ref ls ∧ SqL Z.K H ls (xs.map V.int) ∧ (∀ hs bs, funsP xs = .ok (hs, bs) → ∀ lf vs H', Same H H' → H lf = none → H' lf = some (.lst vs) → FunsAt H' hs bs vs → Q (.ref lf) H') ∧
  ∀ er, funsP xs = .error er → ∀ d H', Same H H' → XdAt H' d er → E (.ref Z.c_NoSheet) (some d) H'
def q_wrong (Z : Adr) (a : V) (H : Hp) (Q : VK) (E : XK) : Prop := ∃ ls xs, a = .ref ls ∧ SqL Z.K H ls (xs.map V.int) ∧ (∀ r, funsP xs = .ok r → ∀ H', Same H H' → Q .non H') ∧
  ∀ er, funsP xs = .error er → ∀ t H', Same H H' → H' t = some (.tup [.int er.1, .str er.2]) → Q (.ref t) H'

/-! ### a generator whose state is a list: script, at, left -/
def St3 (K : PySem.W.Frag) (H : Hp) (p : Addr) : Prop := ∃ (sa : Addr) (ns : List Int) (k l : Int), Scr K H sa ns ∧ 0 ≤ k ∧ 0 ≤ l ∧ H p = some (.lst [.ref sa, .int k, .int l])
theorem St3.ne {K : PySem.W.Frag} {H : Hp} {p q : Addr} (h : St3 K H p) (hq : H q = none) : q ≠ p := by
  obtain ⟨sa, ns, k, l, hS, hk, hl, hp⟩ := h
  exact (ne_of_none hp hq).symm
theorem St3.but {K : PySem.W.Frag} {H H' : Hp} {p q : Addr} (h : St3 K H p) (B : But q H H') (n : p ≠ q) : St3 K H' p := by
  obtain ⟨sa, ns, k, l, hS, hk, hl, hp⟩ := h
  exact ⟨sa, ns, k, l, hS.but B, hk, hl, B _ _ (.inl n) hp⟩
theorem St3.same {K : PySem.W.Frag} {H H' : Hp} {p : Addr} (h : St3 K H p) (S : Same H H') : St3 K H' p := by
  obtain ⟨sa, ns, k, l, hS, hk, hl, hp⟩ := h
  exact ⟨sa, ns, k, l, hS.same S, hk, hl, S _ _ hp⟩
theorem St3.new {K : PySem.W.Frag} {H : Hp} {p q : Addr} {o : HO} (h : St3 K H p) (hq : H q = none) : St3 K (upd H q o) p := h.same (same_new hq)
theorem St3.tups {K : PySem.W.Frag} {H H' : Hp} {p : Addr} (h : St3 K H p) (B : But p H H') : TupS H H' := by
  obtain ⟨sa, ns, k, l, hS, hk, hl, hp⟩ := h
  exact TupS.but B hp fun ys e => by cases e

/-! ### sheets as a law draws them -/
def HeadsOK (hs : List (Int × Int)) : Prop := 1 ≤ hs.length ∧ hs.length ≤ 16 ∧ ∀ (i : Nat) (h : Int × Int), hs[i]? = some h → 0 ≤ h.1 ∧ h.1 ≤ (if 0 < i then 4 else 0) ∧ h.1 ≤ h.2 ∧ h.2 ≤ 12
mutual
def enc : Nd → List Int
  | .mk k _ ns ps => k :: (ns ++ encs ps)
def encs : List Nd → List Int
  | [] => []
  | n :: ns => enc n ++ encs ns
end
mutual
/-- a node, its places forgotten -/
def strip : Nd → Nd
  | .mk k _ ns ps => .mk k 0 ns (strips ps)
def strips : List Nd → List Nd
  | [] => []
  | n :: ns => strip n :: strips ns
end
theorem strips_map : ∀ l : List Nd, strips l = l.map strip
  | [] => rfl
  | n :: l => by show strip n :: strips l = _; rw [strips_map l]; rfl
theorem encs_app : ∀ a b : List Nd, encs (a ++ b) = encs a ++ encs b
  | [], b => rfl
  | x :: a, b => by show enc x ++ encs (a ++ b) = _; rw [encs_app a b, ← List.append_assoc]; rfl
def OwnOK (hs : List (Int × Int)) (bx k : Int) (ns : List Int) (m : Nat) : Prop :=
  (k = 0 ∧ m = 0 ∧ ∃ v, ns = [v]) ∨ (((k = 1 ∧ m = 0) ∨ (k = 2 ∧ m = 1)) ∧ ∃ v, ns = [v] ∧ 0 ≤ v ∧ v < bx) ∨ (k = 3 ∧ 1 ≤ m ∧ m ≤ 12 ∧ ns = [(m : Int)]) ∨
  (k = 4 ∧ ∃ v : Nat, ns = [(v : Int)] ∧ 2 ≤ v ∧ v ≤ 12 ∧ m = v + 1) ∨ (k = 6 ∧ ∃ (v : Nat) (h : Int × Int), ns = [(v : Int)] ∧ hs[v]? = some h ∧ (m : Int) = h.1) ∨ (k = 5 ∧ m = 2 ∧ ns = []) ∨ (7 ≤ k ∧ ns = [] ∧ (m : Int) = manyP k)
def OkN (hs : List (Int × Int)) (bx : Int) : Nat → Nd → Prop
  | 0, _ => False
  | f + 1, .mk k _ ns ps => 0 ≤ k ∧ k ≤ 19 ∧ OwnOK hs bx k ns ps.length ∧ ∀ p ∈ ps, OkN hs bx f p
theorem at_drop {xs : List Int} {k : Nat} {a : Int} {r : List Int} (h : xs.drop k = a :: r) : xs[k]? = some a ∧ xs.drop (k + 1) = r := by
  constructor
  · have := congrArg (·[0]?) h
    simpa using this
  · have := congrArg (List.drop 1) h
    rw [List.drop_drop] at this
    simpa using this
theorem drop_app {xs a r : List Int} {k : Nat} (h : xs.drop k = a ++ r) : xs.drop (k + a.length) = r := by
  have := congrArg (List.drop a.length) h
  rw [List.drop_drop] at this
  simpa using this
theorem ownP_of {xs : List Int} {hs : List (Int × Int)} {bx kind : Int} {k m : Nat} {ns r : List Int} (h : OwnOK hs bx kind ns m) (e : xs.drop k = ns ++ r) : ownP xs hs bx kind k = .ok (ns, (m : Int), k + ns.length) := by
  unfold ownP
  rcases h with ⟨rfl, rfl, v, rfl⟩ | ⟨h, v, rfl, v0, v1⟩ | ⟨rfl, m1, m2, rfl⟩ | ⟨rfl, v, rfl, v0, v1, rfl⟩ | ⟨rfl, v, h, rfl, eh, em⟩ | ⟨rfl, rfl, rfl⟩ | ⟨hk, rfl, em⟩
  · rw [if_pos rfl, bindR_of (dueP_of (at_drop e).1)]; rfl
  · rcases h with ⟨rfl, rfl⟩ | ⟨rfl, rfl⟩
    · rw [if_neg (by omega), if_pos rfl, bindR_of (withinP_of (at_drop e).1 v0 (by omega))]; rfl
    · rw [if_neg (by omega), if_neg (by omega), if_pos rfl, bindR_of (withinP_of (at_drop e).1 v0 (by omega))]; rfl
  · rw [if_neg (by omega), if_neg (by omega), if_neg (by omega), if_pos rfl, bindR_of (withinP_of (at_drop e).1 (by omega) (by omega))]; rfl
  · rw [if_neg (by omega), if_neg (by omega), if_neg (by omega), if_neg (by omega), if_pos rfl, bindR_of (withinP_of (at_drop e).1 (by omega) (by omega))]; rfl
  · have hv := (List.getElem?_eq_some_iff.mp eh).1
    rw [if_neg (by omega), if_neg (by omega), if_neg (by omega), if_neg (by omega), if_neg (by omega), if_pos rfl, bindR_of (withinP_of (at_drop e).1 (by omega) (by omega))]
    have : (hs.getD (v : Int).toNat (0, 0)).1 = (m : Int) := by
      rw [Int.toNat_natCast, List.getD_eq_getElem?_getD, eh, em]; rfl
    rw [this]; rfl
  · rw [if_neg (by omega), if_neg (by omega), if_neg (by omega), if_neg (by omega), if_neg (by omega), if_neg (by omega), if_pos rfl]; rfl
  · rw [if_neg (by omega), if_neg (by omega), if_neg (by omega), if_neg (by omega), if_neg (by omega), if_neg (by omega), if_neg (by omega), em]; rfl
theorem parts_of {xs : List Int} {f : Nat → Rz (Nd × Nat)} {k : Nat} {ps : List Nd} {r : List Int} (hf : ∀ p ∈ ps, ∀ k r, xs.drop k = enc p ++ r → ∃ t, f k = .ok (t, k + (enc p).length) ∧ strip t = strip p) (e : xs.drop k = encs ps ++ r) :
    ∀ m, m ≤ ps.length → ∃ ts, partsP f m k = .ok (ts, k + (encs (ps.take m)).length) ∧ ts.map strip = (ps.take m).map strip
  | 0, _ => ⟨[], rfl, rfl⟩
  | m + 1, hm => by
    obtain ⟨ts, h, hst⟩ := parts_of hf e m (by omega)
    have hm' : m < ps.length := by omega
    have e1 : ps = ps.take m ++ ps[m] :: ps.drop (m + 1) := by rw [← List.drop_eq_getElem_cons hm', List.take_append_drop]
    have e2 : encs ps = encs (ps.take m) ++ (enc ps[m] ++ encs (ps.drop (m + 1))) := by
      conv => lhs; rw [e1]
      rw [encs_app]; rfl
    rw [e2, List.append_assoc] at e
    have e3 := drop_app e
    rw [List.append_assoc] at e3
    obtain ⟨t, ht, hst2⟩ := hf _ (List.getElem_mem hm') _ _ e3
    refine ⟨ts ++ [t], ?_, by rw [List.take_succ_eq_append_getElem hm', List.map_append, List.map_append, hst]; show _ ++ [strip t] = _ ++ [strip ps[m]]; rw [hst2]⟩
    show bindR (partsP f m k) _ = _
    rw [bindR_of h, bindR_of ht, List.take_succ_eq_append_getElem hm', encs_app]
    simp only [encs, List.append_nil, List.length_append]
    rw [Nat.add_assoc]
theorem node_of {xs : List Int} {hs : List (Int × Int)} {bx : Int} : ∀ {f : Nat} {t : Nd} {k : Nat} {r : List Int}, OkN hs bx f t → xs.drop k = enc t ++ r → ∃ t', nodeP xs hs bx f k = .ok (t', k + (enc t).length) ∧ strip t' = strip t
  | 0, t, _, _, h, _ => by cases t; exact h.elim
  | f + 1, .mk kind pl ns ps, k, r, h, e => by
    obtain ⟨h0, h1, ho, hp⟩ := h
    have e : xs.drop k = kind :: (ns ++ encs ps ++ r) := by simpa [enc] using e
    obtain ⟨e1, e2⟩ := at_drop e
    rw [List.append_assoc] at e2
    have e3 := drop_app e2
    obtain ⟨ts, h3, hst⟩ := parts_of (f := nodeP xs hs bx f) (fun p hm k r hk => node_of (hp p hm) hk) e3 ps.length (Nat.le_refl _)
    rw [List.take_length] at hst
    refine ⟨.mk kind k ns ts, ?_, by show Nd.mk kind 0 ns (strips ts) = .mk kind 0 ns (strips ps); rw [strips_map, strips_map, hst]⟩
    unfold nodeP
    rw [bindR_of (withinP_of e1 h0 h1), bindR_of (ownP_of ho e2)]
    rw [List.take_length] at h3
    have h3' : partsP (nodeP xs hs bx f) ((ps.length : Int).toNat) (k + 1 + ns.length) = .ok (ts, k + 1 + ns.length + (encs ps).length) := by rw [Int.toNat_natCast]; exact h3
    show bindR (partsP (nodeP xs hs bx f) ((ps.length : Int).toNat) (k + 1 + ns.length)) _ = _
    rw [bindR_of h3']
    simp only [enc, List.length_cons, List.length_append]
    congr 2
    omega
def flat (hs : List (Int × Int)) : List Int := hs.flatMap fun h => [h.1, h.2]
theorem flat_len (hs : List (Int × Int)) : (flat hs).length = 2 * hs.length := by
  induction hs with
  | nil => rfl
  | cons h hs ih => show ((h.1 :: h.2 :: flat hs)).length = _; rw [List.length_cons, List.length_cons, ih, List.length_cons]; omega
theorem flat_app (a b : List (Int × Int)) : flat (a ++ b) = flat a ++ flat b := List.flatMap_append
theorem flat_at : ∀ {hs : List (Int × Int)} {i : Nat} {h : Int × Int} {r : List Int}, hs[i]? = some h → (flat hs ++ r)[2 * i]? = some h.1 ∧ (flat hs ++ r)[2 * i + 1]? = some h.2
  | h :: hs, 0, _, r, e => by cases e; exact ⟨rfl, rfl⟩
  | x :: hs, i + 1, h, r, e => by
    have := flat_at (hs := hs) (i := i) (r := r) (by simpa using e)
    have e2 : flat (x :: hs) ++ r = x.1 :: x.2 :: (flat hs ++ r) := rfl
    rw [e2, show 2 * (i + 1) = 2 * i + 1 + 1 by omega]
    exact this
theorem heads_of {hs : List (Int × Int)} {r : List Int} (H : HeadsOK hs) : ∀ i, i ≤ hs.length → headsL ((hs.length : Int) :: (flat hs ++ r)) i = .ok (hs.take i)
  | 0, _ => rfl
  | i + 1, hi => by
    have hi' : i < hs.length := by omega
    have eh : hs[i]? = some hs[i] := List.getElem?_eq_getElem hi'
    obtain ⟨a0, a1, a2, a3⟩ := H.2.2 i _ eh
    have f := flat_at (r := r) eh
    unfold headsL
    rw [bindR_of (heads_of H i (by omega)), bindR_of (withinP_of (v := hs[i].1) (by rw [show 1 + 2 * i = 2 * i + 1 by omega]; exact f.1) a0 a1),
      bindR_of (withinP_of (v := hs[i].2) (by rw [show 2 + 2 * i = 2 * i + 1 + 1 by omega]; exact f.2) a2 a3), List.take_succ_eq_append_getElem hi']
theorem headsP_of {hs : List (Int × Int)} {r : List Int} (H : HeadsOK hs) : headsP ((hs.length : Int) :: (flat hs ++ r)) = .ok hs := by
  have := H.1
  have := H.2.1
  unfold headsP
  rw [bindR_of (withinP_of (v := (hs.length : Int)) rfl (by omega) (by omega)), Int.toNat_natCast, heads_of H _ (Nat.le_refl _), List.take_length]
theorem bodies_of {xs : List Int} {hs : List (Int × Int)} {k : Nat} {ts : List Nd} (hl : ts.length = hs.length) (ho : ∀ (i : Nat) (h : Int × Int) (t : Nd), hs[i]? = some h → ts[i]? = some t → OkN hs h.2 10 t) (e : xs.drop k = encs ts) :
    ∀ m, m ≤ hs.length → ∃ bs, bodiesP xs hs m k = .ok (bs, k + (encs (ts.take m)).length) ∧ bs.map strip = (ts.take m).map strip
  | 0, _ => ⟨[], rfl, rfl⟩
  | m + 1, hm => by
    obtain ⟨bs, h, hst⟩ := bodies_of hl ho e m (by omega)
    have hm' : m < hs.length := by omega
    have hmt : m < ts.length := by omega
    have eh : hs[m]? = some hs[m] := List.getElem?_eq_getElem hm'
    have e1 : ts = ts.take m ++ ts[m] :: ts.drop (m + 1) := by rw [← List.drop_eq_getElem_cons hmt, List.take_append_drop]
    have e2 : encs ts = encs (ts.take m) ++ (enc ts[m] ++ encs (ts.drop (m + 1))) := by
      conv => lhs; rw [e1]
      rw [encs_app]; rfl
    have e3 : xs.drop k = encs (ts.take m) ++ (enc ts[m] ++ encs (ts.drop (m + 1))) := by rw [e, e2]
    obtain ⟨t, ht, hst2⟩ := node_of (ho m _ _ eh (List.getElem?_eq_getElem hmt)) (drop_app e3)
    have ed : hs.getD m (0, 0) = hs[m] := by rw [List.getD_eq_getElem?_getD, eh]; rfl
    refine ⟨bs ++ [t], ?_, by rw [List.take_succ_eq_append_getElem hmt, List.map_append, List.map_append, hst]; show _ ++ [strip t] = _ ++ [strip ts[m]]; rw [hst2]⟩
    unfold bodiesP
    rw [bindR_of h, ed, bindR_of ht, List.take_succ_eq_append_getElem hmt, encs_app]
    simp only [encs, List.append_nil, List.length_append]
    rw [Nat.add_assoc]
theorem sheet_ofS {hs : List (Int × Int)} {ts : List Nd} (H : HeadsOK hs) (hl : ts.length = hs.length) (ho : ∀ (i : Nat) (h : Int × Int) (t : Nd), hs[i]? = some h → ts[i]? = some t → OkN hs h.2 10 t) : ∃ bs, funsP ((hs.length : Int) :: (flat hs ++ encs ts)) = .ok (hs, bs) ∧ bs.map strip = ts.map strip := by
  have e : ((hs.length : Int) :: (flat hs ++ encs ts)).drop (1 + 2 * hs.length) = encs ts := by
    rw [Nat.add_comm, List.drop_succ_cons, ← flat_len hs, List.drop_left]
  obtain ⟨bs, h, hst⟩ := bodies_of hl ho e hs.length (Nat.le_refl _)
  rw [← hl, List.take_length] at hst
  refine ⟨bs, ?_, hst⟩
  unfold funsP
  rw [bindR_of (headsP_of H), bindR_of h, if_neg ?_]
  rw [← hl, List.take_length, hl]
  simp only [List.length_cons, List.length_append, flat_len]
  omega
theorem sheet_of {hs : List (Int × Int)} {ts : List Nd} (H : HeadsOK hs) (hl : ts.length = hs.length) (ho : ∀ (i : Nat) (h : Int × Int) (t : Nd), hs[i]? = some h → ts[i]? = some t → OkN hs h.2 10 t) : ∃ bs, funsP ((hs.length : Int) :: (flat hs ++ encs ts)) = .ok (hs, bs) := by
  obtain ⟨bs, h, _⟩ := sheet_ofS H hl ho
  exact ⟨bs, h⟩

/-! ### nodes and functions as data -/
mutual
def ndD : Nd → PyData
  | .mk k p ns ps => .tuple [.int k, .int p, .tuple (ns.map PyData.int), .tuple (ndDs ps)]
def ndDs : List Nd → List PyData
  | [] => []
  | n :: ns => ndD n :: ndDs ns
end
mutual
theorem nd_dp {K : PySem.W.Frag} {H : Hp} : ∀ {n : Nd} {v : V}, NodeAt H n v → Dp K H v (ndD n)
  | .mk _ _ ns _, _, ⟨t, tn, tp, vs, e, h1, h2, h3, h4⟩ => by
    rw [e]
    exact .tup (SqT.of h1) (.cons (.int _) (.cons (.int _) (.cons (.tup (SqT.of h2) (dp_ints ns)) (.cons (.tup (SqT.of h3) (nds_dp h4)) .nil))))
theorem nds_dp {K : PySem.W.Frag} {H : Hp} : ∀ {ns : List Nd} {vs : List V}, NodesAt H ns vs → DpAll K H vs (ndDs ns)
  | [], _, h => by rw [show _ = [] from h]; exact .nil
  | _ :: _, _, ⟨v, r, e, h1, h2⟩ => by rw [e]; exact .cons (nd_dp h1) (nds_dp h2)
end
theorem ndDs_mem : ∀ {ns : List Nd} {d : PyData}, d ∈ ndDs ns → ∃ n ∈ ns, d = ndD n
  | [], _, h => by cases h
  | n :: ns, d, h => by
    rcases List.mem_cons.mp h with e | h
    · exact ⟨n, List.mem_cons_self, e⟩
    · obtain ⟨m, hm, e⟩ := ndDs_mem h
      exact ⟨m, List.mem_cons_of_mem _ hm, e⟩
theorem partsP_mem {f : Nat → Rz (Nd × Nat)} {k : Nat} : ∀ {m : Nat} {r : List Nd × Nat}, partsP f m k = .ok r → ∀ n ∈ r.1, ∃ j j', f j = .ok (n, j')
  | 0, r, h, n, hn => by cases h; cases hn
  | m + 1, r, h, n, hn => by
    obtain ⟨a, h1, h2⟩ := bindR_ok h
    obtain ⟨b, h3, h4⟩ := bindR_ok h2
    cases h4
    rcases List.mem_append.mp hn with z | z
    · exact partsP_mem h1 n z
    · rw [List.mem_singleton.mp z]
      exact ⟨_, _, h3⟩
theorem nd_sh {xs : List Int} {hs : List (Int × Int)} {bx : Int} : ∀ {f k k' : Nat} {n : Nd}, nodeP xs hs bx f k = .ok (n, k') → Sh (2 * f + 1) (ndD n)
  | 0, k, k', n, h => by unfold nodeP at h; cases h
  | f + 1, k, k', n, h => by
    obtain ⟨kind, o, p, h1, h2, h3, h4, h5, e⟩ := nodeP_ok h
    cases e
    refine Sh.tup fun d hd => ?_
    simp only [List.mem_cons, List.not_mem_nil, or_false] at hd
    rcases hd with e | e | e | e <;> subst e
    · exact Sh.int _
    · exact Sh.int _
    · exact (Sh.tup (n := 0) (sh_ints _)).mono (by omega)
    · refine Sh.tup fun d hd => ?_
      obtain ⟨m, hm, rfl⟩ := ndDs_mem hd
      obtain ⟨j, j', hj⟩ := partsP_mem h5 m hm
      exact nd_sh hj
def funD : List (Int × Int) → List Nd → List PyData
  | h :: hs, b :: bs => .tuple [.int h.1, .int h.2, ndD b] :: funD hs bs
  | _, _ => []
theorem fun_dp {K : PySem.W.Frag} {H : Hp} : ∀ {hs : List (Int × Int)} {bs : List Nd} {vs : List V}, FunsAt H hs bs vs → DpAll K H vs (funD hs bs)
  | [], [], _, h => by rw [show _ = [] from h]; exact .nil
  | _ :: _, _ :: _, _, ⟨t, vb, r, e, h1, h2, h3⟩ => by rw [e]; exact .cons (.tup (SqT.of h1) (.cons (.int _) (.cons (.int _) (.cons (nd_dp h2) .nil)))) (fun_dp h3)
theorem funD_mem : ∀ {hs : List (Int × Int)} {bs : List Nd} {d : PyData}, d ∈ funD hs bs → ∃ (a b : Int), ∃ n ∈ bs, d = .tuple [.int a, .int b, ndD n]
  | [], [], _, h => by cases h
  | [], _ :: _, _, h => by cases h
  | _ :: _, [], _, h => by cases h
  | h :: hs, b :: bs, d, hd => by
    rcases List.mem_cons.mp hd with e | e
    · exact ⟨_, _, b, List.mem_cons_self, e⟩
    · obtain ⟨x, y, n, hn, e2⟩ := funD_mem e
      exact ⟨x, y, n, List.mem_cons_of_mem _ hn, e2⟩
theorem bodiesP_mem {xs : List Int} {hs : List (Int × Int)} {k : Nat} : ∀ {m : Nat} {r : List Nd × Nat}, bodiesP xs hs m k = .ok r → ∀ n ∈ r.1, ∃ bx j j', nodeP xs hs bx 10 j = .ok (n, j')
  | 0, r, h, n, hn => by cases h; cases hn
  | m + 1, r, h, n, hn => by
    obtain ⟨a, h1, h2⟩ := bindR_ok h
    obtain ⟨b, h3, h4⟩ := bindR_ok h2
    cases h4
    rcases List.mem_append.mp hn with z | z
    · exact bodiesP_mem h1 n z
    · rw [List.mem_singleton.mp z]
      exact ⟨_, _, _, h3⟩
theorem fun_sh {xs : List Int} {hs : List (Int × Int)} {bs : List Nd} (h : funsP xs = .ok (hs, bs)) : Sh 30 (.list (funD hs bs)) := by
  obtain ⟨k, _, h2, _⟩ := funsP_ok h
  refine (Sh.list (n := 22) fun d hd => ?_).mono (by omega)
  obtain ⟨a, b, n, hn, rfl⟩ := funD_mem hd
  obtain ⟨bx, j, j', hj⟩ := bodiesP_mem h2 n hn
  refine Sh.tup fun d hd => ?_
  simp only [List.mem_cons, List.not_mem_nil, or_false] at hd
  rcases hd with e | e | e <;> subst e
  · exact Sh.int _
  · exact Sh.int _
  · exact nd_sh hj

/-! ### the promises of a law's own drawing -/
def q_Lmixed (Z : Adr) (a b : V) (H : Hp) (Q : VK) (E : XK) : Prop := ∃ c k, a = .int c ∧ b = .int k ∧ ∀ z, Q (.int z) H
def q_Ltake (Z : Adr) (a b : V) (H : Hp) (Q : VK) (E : XK) : Prop := ∃ p m, a = .ref p ∧ b = .int m ∧ 0 < m ∧ m < 10 ^ 70 ∧ St3 Z.K H p ∧ ∀ v H', 0 ≤ v → v < m → St3 Z.K H' p → But p H H' → Q (.int v) H'
def q_Lheads (Z : Adr) (a : V) (H : Hp) (Q : VK) (E : XK) : Prop := ∃ p, a = .ref p ∧ St3 Z.K H p ∧ ∀ lh hs vs H', HeadsOK hs → H lh = none → H' lh = some (.lst vs) → PairsAt H' hs vs → St3 Z.K H' p → But p H H' → Q (.ref lh) H'
def q_Lnumber (Z : Adr) (a : V) (H : Hp) (Q : VK) (E : XK) : Prop := ∃ p, a = .ref p ∧ St3 Z.K H p ∧ ∀ v H', -10 ^ 60 ≤ v → v ≤ 10 ^ 60 → St3 Z.K H' p → But p H H' → Q (.int v) H'
def q_Lleaf (Z : Adr) (a b : V) (H : Hp) (Q : VK) (E : XK) : Prop := ∃ p bx, a = .ref p ∧ b = .int bx ∧ bx < 10 ^ 70 ∧ St3 Z.K H p ∧ ∀ l t H', H l = none → H' l = some (.lst ((enc t).map V.int)) → (∀ hs f, OkN hs bx (f + 1) t) → (enc t).length ≤ 2 → St3 Z.K H' p → But p H H' → Q (.ref l) H'
def q_Lhead (Z : Adr) (a b c : V) (H : Hp) (Q : VK) (E : XK) : Prop := ∃ (p lh : Addr) (hs : List (Int × Int)) (vs : List V) (bx : Int), a = .ref p ∧ b = .ref lh ∧ c = .int bx ∧ bx < 10 ^ 70 ∧ HeadsOK hs ∧ H lh = some (.lst vs) ∧ PairsAt H hs vs ∧ St3 Z.K H p ∧
  ∀ t l (own : List Int) (many : Int) H', H' t = some (.tup [.ref l, .int many]) → H' l = some (.lst (own.map V.int)) → H l = none → ((∃ k, own = [k] ∧ k < 3) ∨ ∃ k ns m, own = k :: ns ∧ 0 ≤ k ∧ k ≤ 19 ∧ (k < 3 → ns.length = 1) ∧ ns.length ≤ 1 ∧ OwnOK hs bx k ns m ∧ many = (m : Int)) → St3 Z.K H' p → But p H H' → Q (.ref t) H'
def q_Lnode (Z : Adr) (n : Nat) (a b c d e : V) (H : Hp) (Q : VK) (E : XK) : Prop := ∃ (p lh lr : Addr) (hs : List (Int × Int)) (vs : List V) (bx dd r : Int) (f : Nat), a = .ref p ∧ b = .ref lh ∧ c = .int bx ∧ d = .int dd ∧ e = .ref lr ∧ dd + f = 11 ∧ 1 ≤ f ∧ f ≤ n ∧ bx < 10 ^ 70 ∧ HeadsOK hs ∧ H lh = some (.lst vs) ∧ PairsAt H hs vs ∧ lr ≠ lh ∧
  H lr = some (.lst [.int r]) ∧ 0 ≤ r ∧ r ≤ 1000 ∧ St3 Z.K H p ∧ ∀ (l : Addr) (t : Nd) (r' : Int) (H' : Hp), H l = none → H' l = some (.lst ((enc t).map V.int)) → OkN hs bx f t → ((enc t).length : Int) ≤ 2 * (1 + r - r') → 0 ≤ r' → r' ≤ r → H' lr = some (.lst [.int r']) → St3 Z.K H' p → But2 p lr H H' → Q (.ref l) H'
theorem no_Lnode {Z : Adr} {a b c d e : V} {H : Hp} {Q : VK} {E : XK} : ¬ q_Lnode Z 0 a b c d e H Q E := fun ⟨p, lh, lr, hs, vs, bx, dd, r, f, _, _, _, _, _, _, h1, h2, _⟩ => by omega
def q_Lsheet (Z : Adr) (a b : V) (H : Hp) (Q : VK) (E : XK) : Prop := ∃ p m, a = .ref p ∧ b = .int m ∧ 0 < m ∧ m ≤ 1000 ∧ St3 Z.K H p ∧ ∀ l xs hs bs H', H l = none → H' l = some (.lst (xs.map V.int)) → funsP xs = .ok (hs, bs) → xs.length ≤ 100000 → St3 Z.K H' p → But p H H' → Q (.ref l) H'

/-! ### what is read is as it must be -/
theorem ownP_own {xs : List Int} {hs : List (Int × Int)} {bx kind : Int} {k : Nat} {o : List Int × Int × Nat} (h0 : 0 ≤ kind) (hB : ∀ h ∈ hs, 0 ≤ h.1) (e : ownP xs hs bx kind k = .ok o) : OwnOK hs bx kind o.1 o.2.1.toNat := by
  unfold ownP at e
  split at e
  · rename_i c; obtain ⟨v, h1, h2⟩ := bindR_ok e; cases h2; exact .inl ⟨c, rfl, v, rfl⟩
  split at e
  · rename_i c; obtain ⟨v, h1, h2⟩ := bindR_ok e; cases h2; have w := (withinP_ok h1).2; exact .inr (.inl ⟨.inl ⟨c, rfl⟩, v, rfl, w.1, by omega⟩)
  split at e
  · rename_i c; obtain ⟨v, h1, h2⟩ := bindR_ok e; cases h2; have w := (withinP_ok h1).2; exact .inr (.inl ⟨.inr ⟨c, rfl⟩, v, rfl, w.1, by omega⟩)
  split at e
  · rename_i c; obtain ⟨v, h1, h2⟩ := bindR_ok e; cases h2; have w := (withinP_ok h1).2
    refine .inr (.inr (.inl ⟨c, ?_, ?_, ?_⟩))
    · show 1 ≤ v.toNat; omega
    · show v.toNat ≤ 12; omega
    · show [v] = [((v.toNat : Nat) : Int)]; rw [show ((v.toNat : Nat) : Int) = v by omega]
  split at e
  · rename_i c; obtain ⟨v, h1, h2⟩ := bindR_ok e; cases h2; have w := (withinP_ok h1).2
    refine .inr (.inr (.inr (.inl ⟨c, v.toNat, ?_, by omega, by omega, ?_⟩)))
    · show [v] = [((v.toNat : Nat) : Int)]; rw [show ((v.toNat : Nat) : Int) = v by omega]
    · show (v + 1).toNat = v.toNat + 1; omega
  split at e
  · rename_i c; obtain ⟨v, h1, h2⟩ := bindR_ok e; cases h2; have w := (withinP_ok h1).2
    have hv : v.toNat < hs.length := by omega
    have eh : hs[v.toNat]? = some hs[v.toNat] := List.getElem?_eq_getElem hv
    have := hB _ (List.getElem_mem hv)
    refine .inr (.inr (.inr (.inr (.inl ⟨c, v.toNat, hs[v.toNat], ?_, eh, ?_⟩))))
    · show [v] = [((v.toNat : Nat) : Int)]; rw [show ((v.toNat : Nat) : Int) = v by omega]
    · show (((hs.getD v.toNat (0, 0)).1.toNat : Nat) : Int) = _
      rw [List.getD_eq_getElem?_getD, eh]
      show ((hs[v.toNat].1.toNat : Nat) : Int) = _
      omega
  split at e
  · rename_i c; cases e; exact .inr (.inr (.inr (.inr (.inr (.inl ⟨c, rfl, rfl⟩)))))
  · cases e
    refine .inr (.inr (.inr (.inr (.inr (.inr ⟨by omega, rfl, ?_⟩)))))
    show (((manyP kind).toNat : Nat) : Int) = manyP kind
    have : 0 ≤ manyP kind := by unfold manyP; repeat' split
                                all_goals omega
    omega
theorem partsP_all {f : Nat → Rz (Nd × Nat)} {P : Nd → Prop} (hf : ∀ k r, f k = .ok r → P r.1) {k : Nat} : ∀ {m : Nat} {r : List Nd × Nat}, partsP f m k = .ok r → ∀ p ∈ r.1, P p
  | 0, r, h => by cases h; intro p hp; cases hp
  | m + 1, r, h => by
    obtain ⟨a, h1, h2⟩ := bindR_ok h
    obtain ⟨b, h3, h4⟩ := bindR_ok h2
    cases h4
    intro p hp
    rcases List.mem_append.mp hp with z | z
    · exact partsP_all hf h1 p z
    · rw [List.mem_singleton.mp z]; exact hf _ _ h3
theorem nodeP_okn {xs : List Int} {hs : List (Int × Int)} {bx : Int} (hB : ∀ h ∈ hs, 0 ≤ h.1) : ∀ {f k : Nat} {r : Nd × Nat}, nodeP xs hs bx f k = .ok r → OkN hs bx f r.1
  | 0, k, r, h => by unfold nodeP at h; cases h
  | f + 1, k, r, h => by
    obtain ⟨kind, o, p, e1, k0, k1, eo, ep, rfl⟩ := nodeP_ok h
    refine ⟨k0, k1, ?_, partsP_all (fun k r => nodeP_okn hB (f := f) (k := k) (r := r)) ep⟩
    rw [partsP_len ep]
    exact ownP_own k0 hB eo
theorem bodiesP_getn {xs : List Int} {hs : List (Int × Int)} {k : Nat} : ∀ {m : Nat} {r : List Nd × Nat} {i : Nat} {b : Nd}, bodiesP xs hs m k = .ok r → r.1[i]? = some b → ∃ j t, nodeP xs hs (hs.getD i (0, 0)).2 10 j = .ok (b, t)
  | 0, r, i, b, h, e => by cases h; simp at e
  | m + 1, r, i, b, h, e => by
    obtain ⟨a, h1, h2⟩ := bindR_ok h
    obtain ⟨c, h3, h4⟩ := bindR_ok h2
    cases h4
    have len := bodiesP_len h1
    by_cases z : i < a.1.length
    · exact bodiesP_getn h1 (by rw [List.getElem?_append_left z] at e; exact e)
    · rw [List.getElem?_append_right (by omega)] at e
      have w := (List.getElem?_eq_some_iff.mp e).1
      simp at w
      have : i = m := by omega
      subst this
      rw [len, Nat.sub_self] at e
      cases e
      exact ⟨_, _, h3⟩
structure FunsOK (hs : List (Int × Int)) (bs : List Nd) : Prop where
  h : HeadsOK hs
  l : bs.length = hs.length
  ok : ∀ (i : Nat) (h : Int × Int) (b : Nd), hs[i]? = some h → bs[i]? = some b → OkN hs h.2 10 b
theorem funsP_okn {xs : List Int} {hs : List (Int × Int)} {bs : List Nd} (h : funsP xs = .ok (hs, bs)) : FunsOK hs bs := by
  obtain ⟨k, h1, h2, _⟩ := funsP_ok h
  obtain ⟨n1, n2, e0, eL⟩ := headsP_ok h1
  have hA := headsL_all eL
  refine ⟨⟨n1, n2, fun i x e => ?_⟩, bodiesP_len h2, fun i x b e1 e2 => ?_⟩
  · have a := hA x (List.mem_of_getElem? e)
    refine ⟨a.1, ?_, a.2.2⟩
    split
    · exact a.2.1
    · rename_i c
      have c : i = 0 := by omega
      subst c
      obtain ⟨r', h'⟩ := headsL_pre eL (i := 1) n1
      obtain ⟨r0, h0⟩ := headsL_pre h' (i := 0) (by omega)
      obtain ⟨p, b, g1, g2, rfl⟩ := headsL_step h' h0
      have g := (withinP_ok g1).2.2
      rw [if_neg (by omega)] at g
      cases h0
      have pre : ∀ {m : Nat} {r : List (Int × Int)}, headsL xs m = .ok r → 1 ≤ m → r[0]? = some (p, b) := by
        intro m
        induction m with
        | zero => intro r _ h; omega
        | succ m ih =>
          intro r hr _
          by_cases z : m = 0
          · subst z; rw [h'] at hr; cases hr; rfl
          · obtain ⟨a, q1, q2⟩ := bindR_ok hr
            obtain ⟨p', q3, q4⟩ := bindR_ok q2
            obtain ⟨b', q5, q6⟩ := bindR_ok q4
            cases q6
            have := ih q1 (by omega)
            rw [List.getElem?_append_left (List.getElem?_eq_some_iff.mp this).1]; exact this
      have := pre eL n1
      rw [this] at e
      cases e
      exact g
  · obtain ⟨j, t, hn⟩ := bodiesP_getn h2 e2
    have ed : hs.getD i (0, 0) = x := by rw [List.getD_eq_getElem?_getD, e1]; rfl
    rw [ed] at hn
    exact nodeP_okn (fun h hh => (hA h hh).1) hn
mutual
def OkS (hs : List (Int × Int)) (bx : Int) : Nd → Prop
  | .mk k _ ns ps => 0 ≤ k ∧ k ≤ 19 ∧ OwnOK hs bx k ns ps.length ∧ OkSs hs bx ps
def OkSs (hs : List (Int × Int)) (bx : Int) : List Nd → Prop
  | [] => True
  | n :: ns => OkS hs bx n ∧ OkSs hs bx ns
end
theorem oks_all {hs : List (Int × Int)} {bx : Int} : ∀ {l : List Nd}, (∀ p ∈ l, OkS hs bx p) → OkSs hs bx l
  | [], _ => trivial
  | n :: l, h => ⟨h n List.mem_cons_self, oks_all fun p hp => h p (List.mem_cons_of_mem _ hp)⟩
theorem oks_of {hs : List (Int × Int)} {bx : Int} : ∀ (f : Nat) (n : Nd), OkN hs bx f n → OkS hs bx n
  | 0, n, h => by cases n; exact h.elim
  | f + 1, .mk k _ ns ps, ⟨h0, h1, ho, hp⟩ => ⟨h0, h1, ho, oks_all fun p hm => oks_of f p (hp p hm)⟩
theorem OkSs.get {hs : List (Int × Int)} {bx : Int} : ∀ {ps : List Nd} {i : Nat} {n : Nd}, OkSs hs bx ps → ps[i]? = some n → OkS hs bx n
  | [], _, _, _, e => by simp at e
  | n :: _, 0, _, h, e => by cases e; exact h.1
  | _ :: ps, i + 1, _, h, e => OkSs.get (ps := ps) (i := i) h.2 (by simpa using e)

/-! ### a sheet written again -/
theorem own_drop {xs : List Int} {hs : List (Int × Int)} {bx kind : Int} {k : Nat} {o : List Int × Int × Nat} (h : ownP xs hs bx kind k = .ok o) : xs.drop k = o.1 ++ xs.drop o.2.2 := by
  rw [(ownP_le h).1]
  have := (ownP_cut h).1
  conv => lhs; rw [← List.take_append_drop o.1.length (xs.drop k), this, List.drop_drop]
theorem parts_drop {xs : List Int} {f : Nat → Rz (Nd × Nat)} (hf : ∀ j r, f j = .ok r → xs.drop j = enc r.1 ++ xs.drop r.2) {k : Nat} : ∀ {m : Nat} {r : List Nd × Nat}, partsP f m k = .ok r → xs.drop k = encs r.1 ++ xs.drop r.2
  | 0, r, h => by cases h; rfl
  | m + 1, r, h => by
    obtain ⟨a, h1, h2⟩ := bindR_ok h
    obtain ⟨b, h3, h4⟩ := bindR_ok h2
    cases h4
    show xs.drop k = encs (a.1 ++ [b.1]) ++ xs.drop b.2
    rw [encs_app, parts_drop hf h1, hf _ _ h3]
    simp [encs]
theorem node_drop {xs : List Int} {hs : List (Int × Int)} {bx : Int} : ∀ {f k : Nat} {r : Nd × Nat}, nodeP xs hs bx f k = .ok r → xs.drop k = enc r.1 ++ xs.drop r.2
  | 0, k, r, h => by unfold nodeP at h; cases h
  | f + 1, k, r, h => by
    obtain ⟨kind, o, p, h1, h2, h3, h4, h5, rfl⟩ := nodeP_ok h
    have hk := List.getElem?_eq_some_iff.mp h1
    show xs.drop k = kind :: (o.1 ++ encs p.1) ++ xs.drop p.2
    rw [List.drop_eq_getElem_cons hk.1, hk.2, own_drop h4, parts_drop (fun j r => node_drop (f := f) (k := j) (r := r)) h5]
    simp
theorem heads_drop {xs : List Int} : ∀ {m : Nat} {r : List (Int × Int)}, headsL xs m = .ok r → xs.drop 1 = flat r ++ xs.drop (1 + 2 * m)
  | 0, r, h => by cases h; rfl
  | m + 1, r, h => by
    obtain ⟨a, h1⟩ := headsL_pre h (i := m) (by omega)
    obtain ⟨p, b, h3, h4, rfl⟩ := headsL_step h h1
    have a1 := List.getElem?_eq_some_iff.mp (withinP_ok h3).1
    have a2 := List.getElem?_eq_some_iff.mp (withinP_ok h4).1
    rw [heads_drop h1, flat_app, List.drop_eq_getElem_cons a1.1, a1.2, show 1 + 2 * m + 1 = 2 + 2 * m by omega, List.drop_eq_getElem_cons a2.1, a2.2]
    simp [flat]
    congr 1
    omega
theorem bodies_drop {xs : List Int} {hs : List (Int × Int)} {k : Nat} : ∀ {m : Nat} {r : List Nd × Nat}, bodiesP xs hs m k = .ok r → xs.drop k = encs r.1 ++ xs.drop r.2
  | 0, r, h => by cases h; rfl
  | m + 1, r, h => by
    obtain ⟨a, h1, h2⟩ := bindR_ok h
    obtain ⟨b, h3, h4⟩ := bindR_ok h2
    cases h4
    show xs.drop k = encs (a.1 ++ [b.1]) ++ xs.drop b.2
    rw [encs_app, bodies_drop h1, node_drop h3]
    simp [encs]
theorem funs_eq {xs : List Int} {hs : List (Int × Int)} {bs : List Nd} (h : funsP xs = .ok (hs, bs)) : xs = (hs.length : Int) :: (flat hs ++ encs bs) := by
  obtain ⟨k, h1, h2, h3⟩ := funsP_ok h
  obtain ⟨n1, n2, e0, eL⟩ := headsP_ok h1
  obtain ⟨l0, a0⟩ := List.getElem?_eq_some_iff.mp e0
  have b1 := heads_drop eL
  have b2 := bodies_drop h2
  have hk : k = xs.length := by have := funsP_len h1 h2; omega
  rw [hk, List.drop_length] at b2
  have : xs = xs[0] :: xs.drop 1 := by
    have := List.drop_eq_getElem_cons l0
    simpa using this
  rw [this, b1, b2, a0]
  simp
theorem node_len {xs : List Int} {hs : List (Int × Int)} {bx : Int} {f k : Nat} {r : Nd × Nat} (h : nodeP xs hs bx f k = .ok r) : k + (enc r.1).length = r.2 := by
  have a := congrArg List.length (node_drop h)
  have b := nodeP_le h
  rw [List.length_append, List.length_drop, List.length_drop] at a
  omega

/-! ### the parts by their places -/
theorem partsP_get {f : Nat → Rz (Nd × Nat)} {k i : Nat} {r : List Nd × Nat} {b : Nd × Nat} (er : partsP f i k = .ok r) (eb : f r.2 = .ok b) : ∀ {m : Nat} {R : List Nd × Nat}, partsP f m k = .ok R → i < m → R.1[i]? = some b.1
  | 0, R, _, h => by omega
  | m + 1, R, hR, hm => by
    obtain ⟨A, hA⟩ := partsP_pre hR (i := m) (by omega)
    obtain ⟨B, hB, rfl⟩ := partsP_step hR hA
    have lA := partsP_len hA
    by_cases c : i < m
    · show (A.1 ++ [B.1])[i]? = _
      rw [List.getElem?_append_left (by omega)]
      exact partsP_get er eb hA c
    · have : i = m := by omega
      subst this
      rw [er] at hA
      cases hA
      rw [eb] at hB
      cases hB
      show (r.1 ++ [b.1])[i]? = _
      rw [List.getElem?_append_right (by omega), lA]
      simp
theorem bodiesP_get {xs : List Int} {hs : List (Int × Int)} {k i : Nat} {r : List Nd × Nat} {b : Nd × Nat} (er : bodiesP xs hs i k = .ok r) (eb : nodeP xs hs (hs.getD i (0, 0)).2 10 r.2 = .ok b) : ∀ {m : Nat} {R : List Nd × Nat}, bodiesP xs hs m k = .ok R → i < m → R.1[i]? = some b.1
  | 0, R, _, h => by omega
  | m + 1, R, hR, hm => by
    obtain ⟨A, hA⟩ := bodiesP_pre hR (i := m) (by omega)
    obtain ⟨B, hB, rfl⟩ := bodiesP_step hR hA
    have lA := bodiesP_len hA
    by_cases c : i < m
    · show (A.1 ++ [B.1])[i]? = _
      rw [List.getElem?_append_left (by omega)]
      exact bodiesP_get er eb hA c
    · have : i = m := by omega
      subst this
      rw [er] at hA
      cases hA
      rw [eb] at hB
      cases hB
      show (r.1 ++ [b.1])[i]? = _
      rw [List.getElem?_append_right (by omega), lA]
      simp
theorem FunsAt.nodes {H : Hp} : ∀ {hs : List (Int × Int)} {bs : List Nd} {vs : List V} {i : Nat} {v : V}, FunsAt H hs bs vs → vs[i]? = some v → ∃ t vb h b, v = .ref t ∧ bs[i]? = some b ∧ H t = some (.tup [.int h, .int (hs.getD i (0, 0)).2, vb]) ∧ NodeAt H b vb := by
  intro hs bs vs i v h e
  obtain ⟨t, vb, hh, b, e1, e2, e3, e4, e5⟩ := h.get e
  exact ⟨t, vb, hh.1, b, e1, e3, by rw [List.getD_eq_getElem?_getD, e2]; exact e4, e5⟩

/-! ### nodes one behind another -/
mutual
def pre : Nd → List Nd
  | .mk k p ns ps => .mk k p ns ps :: pres ps
def pres : List Nd → List Nd
  | [] => []
  | n :: ns => pre n ++ pres ns
end
theorem pres_app : ∀ a b : List Nd, pres (a ++ b) = pres a ++ pres b
  | [], b => rfl
  | x :: a, b => by show pre x ++ pres (a ++ b) = _; rw [pres_app a b, ← List.append_assoc]; rfl
theorem pres_one (n : Nd) : pres [n] = pre n := by simp [pres]
theorem pre_pos : ∀ n : Nd, 1 ≤ (pre n).length
  | .mk _ _ _ _ => by simp [pre]
theorem pres_ge : ∀ l : List Nd, l.length ≤ (pres l).length
  | [] => Nat.zero_le _
  | n :: l => by
    have a := pre_pos n
    have b := pres_ge l
    show l.length + 1 ≤ (pre n ++ pres l).length
    rw [List.length_append]
    omega
/-- what covers the sheet from k to k' -/
def Cov (xs : List Int) : Nat → List Nd → Nat → Prop
  | k, [], k' => k = k'
  | k, n :: ns, k' => n.place = (k : Int) ∧ (xs.drop k).take (1 + n.nums.length) = n.kind :: n.nums ∧ k + 1 + n.nums.length ≤ xs.length ∧ Cov xs (k + 1 + n.nums.length) ns k'
theorem Cov.app {xs : List Int} : ∀ {a b : List Nd} {k m k' : Nat}, Cov xs k a m → Cov xs m b k' → Cov xs k (a ++ b) k'
  | [], _, _, _, _, h, g => by rw [show _ = _ from h]; exact g
  | _ :: _, _, _, _, _, ⟨h1, h2, h3, h4⟩, g => ⟨h1, h2, h3, Cov.app h4 g⟩
theorem Cov.len {xs : List Int} : ∀ {a : List Nd} {k k' : Nat}, Cov xs k a k' → k + a.length ≤ k'
  | [], _, _, h => by rw [show _ = _ from h]; exact Nat.le_refl _
  | _ :: a, k, k', ⟨_, _, _, h4⟩ => by have := Cov.len h4; rw [List.length_cons]; omega
theorem parts_cov {xs : List Int} {f : Nat → Rz (Nd × Nat)} (hf : ∀ j r, f j = .ok r → Cov xs j (pre r.1) r.2) {k : Nat} : ∀ {m : Nat} {r : List Nd × Nat}, partsP f m k = .ok r → Cov xs k (pres r.1) r.2
  | 0, r, h => by cases h; exact rfl
  | m + 1, r, h => by
    obtain ⟨a, h1, h2⟩ := bindR_ok h
    obtain ⟨b, h3, h4⟩ := bindR_ok h2
    cases h4
    show Cov xs k (pres (a.1 ++ [b.1])) b.2
    rw [pres_app, pres_one]
    exact (parts_cov hf h1).app (hf _ _ h3)
theorem node_cov {xs : List Int} {hs : List (Int × Int)} {bx : Int} : ∀ {f k : Nat} {r : Nd × Nat}, nodeP xs hs bx f k = .ok r → Cov xs k (pre r.1) r.2
  | 0, k, r, h => by unfold nodeP at h; cases h
  | f + 1, k, r, h => by
    obtain ⟨kind, o, p, h1, h2, h3, h4, h5, rfl⟩ := nodeP_ok h
    have hk := List.getElem?_eq_some_iff.mp h1
    have hk1 := hk.1
    have hl := ownP_le h4
    have hc := ownP_cut h4
    have := parts_cov (fun j r => node_cov (f := f) (k := j) (r := r)) h5
    refine ⟨rfl, ?_, ?_, ?_⟩
    · show (xs.drop k).take (1 + o.1.length) = kind :: o.1
      rw [List.drop_eq_getElem_cons hk.1, hk.2, Nat.add_comm, List.take_succ_cons, hc.1]
    · show k + 1 + o.1.length ≤ xs.length
      omega
    · show Cov xs (k + 1 + o.1.length) (pres p.1) p.2
      rw [← hl.1]
      exact this
theorem bodies_cov {xs : List Int} {hs : List (Int × Int)} {k : Nat} : ∀ {m : Nat} {r : List Nd × Nat}, bodiesP xs hs m k = .ok r → Cov xs k (pres r.1) r.2
  | 0, r, h => by cases h; exact rfl
  | m + 1, r, h => by
    obtain ⟨a, h1, h2⟩ := bindR_ok h
    obtain ⟨b, h3, h4⟩ := bindR_ok h2
    cases h4
    show Cov xs k (pres (a.1 ++ [b.1])) b.2
    rw [pres_app, pres_one]
    exact (bodies_cov h1).app (node_cov h3)
theorem funs_cov {xs : List Int} {hs : List (Int × Int)} {bs : List Nd} (h : funsP xs = .ok (hs, bs)) : Cov xs (1 + 2 * hs.length) (pres bs) xs.length := by
  obtain ⟨k, h1, h2, h3⟩ := funsP_ok h
  have := bodies_cov h2
  have e : k = xs.length := by have := funsP_len h1 h2; omega
  rw [e] at this
  exact this
theorem NodesAt.append {H : Hp} : ∀ {a b : List Nd} {vs ws : List V}, NodesAt H a vs → NodesAt H b ws → NodesAt H (a ++ b) (vs ++ ws)
  | [], _, vs, _, h, g => by rw [show vs = [] from h]; exact g
  | _ :: _, _, _, _, ⟨v, r, e, h1, h2⟩, g => by rw [e]; exact ⟨v, r ++ _, rfl, h1, NodesAt.append h2 g⟩
theorem NodesAt.last {H : Hp} : ∀ {a : List Nd} {n : Nd} {vs : List V}, NodesAt H (a ++ [n]) vs → ∃ ws v, vs = ws ++ [v] ∧ NodesAt H a ws ∧ NodeAt H n v
  | [], _, _, ⟨v, r, e, h1, h2⟩ => ⟨[], v, by rw [e, show r = [] from h2]; rfl, rfl, h1⟩
  | _ :: _, _, _, ⟨v, r, e, h1, h2⟩ => by
    obtain ⟨ws, w, e2, h3, h4⟩ := NodesAt.last h2
    exact ⟨v :: ws, w, by rw [e, e2]; rfl, ⟨v, ws, rfl, h1, h3⟩, h4⟩
theorem NodesAt.rev {H : Hp} : ∀ {a : List Nd} {vs : List V}, NodesAt H a vs → NodesAt H a.reverse vs.reverse
  | [], vs, h => by rw [show vs = [] from h]; exact rfl
  | _ :: _, _, ⟨v, r, e, h1, h2⟩ => by
    rw [e, List.reverse_cons, List.reverse_cons]
    exact (NodesAt.rev h2).app h1
mutual
theorem pre_good {xs : List Int} {hs : List (Int × Int)} : ∀ {n : Nd}, (∃ bx f j j', f ≤ 10 ∧ nodeP xs hs bx f j = .ok (n, j')) → ∀ m ∈ pre n, ∃ bx f j j', f ≤ 10 ∧ nodeP xs hs bx f j = .ok (m, j')
  | .mk k p ns ps, h, m, hm => by
    rcases List.mem_cons.mp (show m ∈ .mk k p ns ps :: pres ps from hm) with e | hm2
    · rw [e]; exact h
    · obtain ⟨bx, f, j, j', hf, h⟩ := h
      obtain ⟨f, rfl⟩ : ∃ g, f = g + 1 := ⟨f - 1, by have := nodeP_dep h; omega⟩
      obtain ⟨kind, o, pp, e1, k0, k1, eo, ep, en⟩ := nodeP_ok h
      cases en
      exact pres_good (fun n hn => by
        obtain ⟨a1, a2, a3⟩ := partsP_mem ep n hn
        exact ⟨bx, f, a1, a2, by omega, a3⟩) m hm2
theorem pres_good {xs : List Int} {hs : List (Int × Int)} : ∀ {l : List Nd}, (∀ n ∈ l, ∃ bx f j j', f ≤ 10 ∧ nodeP xs hs bx f j = .ok (n, j')) → ∀ m ∈ pres l, ∃ bx f j j', f ≤ 10 ∧ nodeP xs hs bx f j = .ok (m, j')
  | [], _, m, hm => by cases hm
  | n :: l, h, m, hm => by
    rcases List.mem_append.mp (show m ∈ pre n ++ pres l from hm) with z | z
    · exact pre_good (h n List.mem_cons_self) m z
    · exact pres_good (fun x hx => h x (List.mem_cons_of_mem _ hx)) m z
end
def q_nodes_in (Z : Adr) (n : Nat) (a : V) (H : Hp) (Q : VK) (E : XK) : Prop := ∃ (xs : List Int) (hs : List (Int × Int)) (bx : Int) (k f : Nat) (r : Nd × Nat), nodeP xs hs bx f k = .ok r ∧ NodeAt H r.1 a ∧ f ≤ n ∧ xs.length ≤ 300000 ∧
  ∀ l vs H', Same H H' → H l = none → H' l = some (.lst vs) → NodesAt H' (pre r.1) vs → Q (.ref l) H'
theorem no_nodes_in {Z : Adr} {a : V} {H : Hp} {Q : VK} {E : XK} : ¬ q_nodes_in Z 0 a H Q E := fun ⟨xs, hs, bx, k, f, r, e, _, hf, _⟩ => by
  have := nodeP_dep e
  omega

def q_nodes (Z : Adr) (a : V) (H : Hp) (Q : VK) (E : XK) : Prop := ∃ ls xs, a = .ref ls ∧ SqL Z.K H ls (xs.map V.int) ∧ xs.length ≤ 300000 ∧ (∀ hs bs, funsP xs = .ok (hs, bs) → ∀ l vs H', Same H H' → H l = none → H' l = some (.lst vs) → NodesAt H' (pres bs) vs → Q (.ref l) H') ∧
  ∀ er, funsP xs = .error er → ∀ d H', Same H H' → XdAt H' d er → E (.ref Z.c_NoSheet) (some d) H'

/-! ### a node within others -/
structure Fr where
  k : Int
  p : Int
  ns : List Int
  l : List Nd
  r : List Nd
def plug : List Fr → Nd → Nd
  | [], n => n
  | f :: c, n => .mk f.k f.p f.ns (f.l ++ plug c n :: f.r)
abbrev Br := Int × List Int
def bare (n : Nd) : Br := (n.kind, n.nums)
def encB (b : Br) : List Int := b.1 :: b.2
mutual
theorem enc_bare : ∀ n : Nd, enc n = ((pre n).map bare).flatMap encB
  | .mk k p ns ps => by
    show k :: (ns ++ encs ps) = ((Nd.mk k p ns ps :: pres ps).map bare).flatMap encB
    rw [List.map_cons, List.flatMap_cons, encs_bare ps]; rfl
theorem encs_bare : ∀ l : List Nd, encs l = ((pres l).map bare).flatMap encB
  | [] => rfl
  | n :: l => by
    show enc n ++ encs l = ((pre n ++ pres l).map bare).flatMap encB
    rw [List.map_append, List.flatMap_append, enc_bare n, encs_bare l]
end
def bareA : List Fr → List Br
  | [] => []
  | f :: c => (f.k, f.ns) :: ((pres f.l).map bare ++ bareA c)
def bareB : List Fr → List Br
  | [] => []
  | f :: c => bareB c ++ (pres f.r).map bare
theorem pres_mid (l : List Nd) (b : Nd) (r : List Nd) : pres (l ++ b :: r) = pres l ++ (pre b ++ pres r) := by rw [pres_app]; rfl
theorem pre_plug : ∀ (c : List Fr) (n : Nd), (pre (plug c n)).map bare = bareA c ++ ((pre n).map bare ++ bareB c)
  | [], n => by show _ = [] ++ ((pre n).map bare ++ []); simp [plug]
  | f :: c, n => by
    show (Nd.mk f.k f.p f.ns (f.l ++ plug c n :: f.r) :: pres (f.l ++ plug c n :: f.r)).map bare = ((f.k, f.ns) :: ((pres f.l).map bare ++ bareA c)) ++ ((pre n).map bare ++ (bareB c ++ (pres f.r).map bare))
    rw [pres_mid, List.map_cons, List.map_append, List.map_append, pre_plug c n]
    simp [bare, Nd.kind, Nd.nums]
theorem pre_at_plug : ∀ (c : List Fr) (n : Nd), (pre (plug c n))[(bareA c).length]? = some n
  | [], .mk _ _ _ _ => rfl
  | f :: c, n => by
    have ih := pre_at_plug c n
    have hl := (List.getElem?_eq_some_iff.mp ih).1
    show (Nd.mk f.k f.p f.ns (f.l ++ plug c n :: f.r) :: pres (f.l ++ plug c n :: f.r))[((f.k, f.ns) :: ((pres f.l).map bare ++ bareA c)).length]? = _
    rw [List.length_cons, List.getElem?_cons_succ, pres_mid, List.length_append, List.length_map, List.getElem?_append_right (by omega), Nat.add_sub_cancel_left, List.getElem?_append_left hl]
    exact ih
mutual
def dps (d : Nat) : Nd → List Nat
  | .mk _ _ _ ps => d :: dpss (d + 1) ps
def dpss (d : Nat) : List Nd → List Nat
  | [] => []
  | n :: l => dps d n ++ dpss d l
end
mutual
theorem dps_len : ∀ (n : Nd) (d : Nat), (dps d n).length = (pre n).length
  | .mk _ _ _ ps, d => by show (d :: dpss (d + 1) ps).length = (_ :: pres ps).length; rw [List.length_cons, List.length_cons, dpss_len ps]
theorem dpss_len : ∀ (l : List Nd) (d : Nat), (dpss d l).length = (pres l).length
  | [], _ => rfl
  | n :: l, d => by show (dps d n ++ dpss d l).length = (pre n ++ pres l).length; rw [List.length_append, List.length_append, dps_len n, dpss_len l]
end
mutual
theorem pre_ctx : ∀ (n : Nd) (i : Nat) (m : Nd), (pre n)[i]? = some m → ∃ c, n = plug c m ∧ (bareA c).length = i ∧ ∀ d, (dps d n)[i]? = some (d + c.length)
  | .mk k p ns ps, 0, m, h => ⟨[], by cases h; rfl, rfl, fun d => rfl⟩
  | .mk k p ns ps, i + 1, m, h => by
    obtain ⟨l, b, r, c, e1, e2, e3, e4⟩ := pres_ctx ps i m (by simpa [pre] using h)
    refine ⟨⟨k, p, ns, l, r⟩ :: c, by show _ = Nd.mk k p ns (l ++ plug c m :: r); rw [← e2, e1], by show ((pres l).map bare ++ bareA c).length + 1 = _; rw [List.length_append, List.length_map, e3], fun d => ?_⟩
    show (d :: dpss (d + 1) ps)[i + 1]? = _
    rw [List.getElem?_cons_succ, e4 (d + 1), List.length_cons]
    congr 1; omega
theorem pres_ctx : ∀ (ps : List Nd) (i : Nat) (m : Nd), (pres ps)[i]? = some m → ∃ l b r c, ps = l ++ b :: r ∧ b = plug c m ∧ (pres l).length + (bareA c).length = i ∧ ∀ d, (dpss d ps)[i]? = some (d + c.length)
  | [], i, m, h => by simp [pres] at h
  | n :: ps, i, m, h => by
    have h : (pre n ++ pres ps)[i]? = some m := h
    by_cases z : i < (pre n).length
    · rw [List.getElem?_append_left z] at h
      obtain ⟨c, e1, e2, e3⟩ := pre_ctx n i m h
      refine ⟨[], n, ps, c, rfl, e1, by show 0 + _ = _; omega, fun d => ?_⟩
      show (dps d n ++ dpss d ps)[i]? = _
      rw [List.getElem?_append_left (by rw [dps_len]; exact z)]
      exact e3 d
    · rw [List.getElem?_append_right (by omega)] at h
      obtain ⟨l, b, r, c, e1, e2, e3, e4⟩ := pres_ctx ps _ m h
      refine ⟨n :: l, b, r, c, by rw [e1]; rfl, e2, by show (pre n ++ pres l).length + _ = _; rw [List.length_append]; omega, fun d => ?_⟩
      show (dps d n ++ dpss d ps)[i]? = _
      rw [List.getElem?_append_right (by rw [dps_len]; omega), dps_len]
      exact e4 d
end
/-! ### how deep nodes are -/
mutual
def dpn : Nd → Nat
  | .mk _ _ _ ps => 1 + dpns ps
def dpns : List Nd → Nat
  | [] => 0
  | n :: l => Nat.max (dpn n) (dpns l)
end
theorem dpns_mem : ∀ {l : List Nd} {n : Nd}, n ∈ l → dpn n ≤ dpns l
  | x :: l, n, h => by
    show _ ≤ Nat.max (dpn x) (dpns l)
    rcases List.mem_cons.mp h with e | e
    · rw [e]; exact Nat.le_max_left _ _
    · exact Nat.le_trans (dpns_mem e) (Nat.le_max_right _ _)
theorem dpns_le : ∀ {l : List Nd} {g : Nat}, (∀ n ∈ l, dpn n ≤ g) → dpns l ≤ g
  | [], _, _ => Nat.zero_le _
  | x :: l, g, h => Nat.max_le.mpr ⟨h x List.mem_cons_self, dpns_le fun n hn => h n (List.mem_cons_of_mem _ hn)⟩
theorem dpns_big : ∀ {l : List Nd} {g : Nat}, g < dpns l → ∃ n ∈ l, g < dpn n
  | [], _, h => absurd h (by simp [dpns])
  | x :: l, g, h => by
    have h : g < Nat.max (dpn x) (dpns l) := h
    by_cases c : g < dpn x
    · exact ⟨x, List.mem_cons_self, c⟩
    · obtain ⟨n, hn, e⟩ := dpns_big (l := l) (g := g) (by
        rcases Nat.le_total (dpn x) (dpns l) with z | z
        · rw [show Nat.max (dpn x) (dpns l) = dpns l from Nat.max_eq_right z] at h; exact h
        · rw [show Nat.max (dpn x) (dpns l) = dpn x from Nat.max_eq_left z] at h; exact absurd h c)
      exact ⟨n, List.mem_cons_of_mem _ hn, e⟩
theorem okn_dep {hs : List (Int × Int)} {bx : Int} : ∀ {f : Nat} {t : Nd}, OkN hs bx f t → dpn t ≤ f
  | 0, .mk _ _ _ _, h => h.elim
  | f + 1, .mk _ _ _ ps, ⟨_, _, _, d⟩ => by
    show 1 + dpns ps ≤ f + 1
    have := dpns_le (l := ps) (g := f) fun n hn => okn_dep (d n hn)
    omega
theorem okn_of {hs : List (Int × Int)} {bx : Int} : ∀ {f g : Nat} {t : Nd}, OkN hs bx f t → dpn t ≤ g → OkN hs bx g t
  | 0, _, .mk _ _ _ _, h, _ => h.elim
  | f + 1, 0, .mk _ _ _ ps, _, h => absurd (show 1 + dpns ps ≤ 0 from h) (by omega)
  | f + 1, g + 1, .mk _ _ _ ps, ⟨a, b, c, d⟩, h => by
    have h : 1 + dpns ps ≤ g + 1 := h
    exact ⟨a, b, c, fun n hn => okn_of (d n hn) (by have := dpns_mem hn; omega)⟩
theorem plug_dep : ∀ (c : List Fr) (n : Nd), c.length + dpn n ≤ dpn (plug c n)
  | [], n => by show 0 + _ ≤ _; simp [plug]
  | f :: c, n => by
    have ih := plug_dep c n
    show _ ≤ 1 + dpns (f.l ++ plug c n :: f.r)
    have := dpns_mem (l := f.l ++ plug c n :: f.r) (n := plug c n) (by simp)
    rw [List.length_cons]
    omega
theorem okn_sub {hs : List (Int × Int)} {bx : Int} : ∀ {c : List Fr} {F : Nat} {n : Nd}, OkN hs bx F (plug c n) → c.length ≤ F ∧ OkN hs bx (F - c.length) n
  | [], F, n, h => ⟨Nat.zero_le _, h⟩
  | f :: c, 0, n, h => h.elim
  | f :: c, F + 1, n, ⟨_, _, _, d⟩ => by
    obtain ⟨a, b⟩ := okn_sub (d (plug c n) (by simp))
    rw [List.length_cons]
    exact ⟨by omega, by rw [show F + 1 - (c.length + 1) = F - c.length by omega]; exact b⟩
/-- another node in a node's place -/
theorem okn_plug {hs : List (Int × Int)} {bx : Int} : ∀ {c : List Fr} {F G : Nat} {n m : Nd}, OkN hs bx F (plug c n) → OkN hs bx G m → F ≤ c.length + G → OkN hs bx (c.length + G) (plug c m)
  | [], F, G, n, m, _, h, _ => by show OkN hs bx (0 + G) m; rw [Nat.zero_add]; exact h
  | f :: c, 0, _, n, m, h, _, _ => h.elim
  | f :: c, F + 1, G, n, m, ⟨a, b, o, d⟩, h, hF => by
    rw [List.length_cons] at hF
    rw [List.length_cons, show c.length + 1 + G = (c.length + G) + 1 by omega]
    refine ⟨a, b, by simpa using o, fun q hq => ?_⟩
    have up : ∀ q, OkN hs bx F q → OkN hs bx (c.length + G) q := fun q z => okn_of z (by have := okn_dep z; omega)
    rcases List.mem_append.mp hq with z | z
    · exact up q (d q (List.mem_append_left _ z))
    · rcases List.mem_cons.mp z with e | e
      · rw [e]
        exact okn_plug (d (plug c n) (by simp)) h (by omega)
      · exact up q (d q (List.mem_append_right _ (List.mem_cons_of_mem _ e)))
theorem okn_plug_dep {hs : List (Int × Int)} {bx : Int} : ∀ {c : List Fr} {F : Nat} {n m : Nd}, OkN hs bx F (plug c n) → c.length + dpn m ≤ F → (∃ G, OkN hs bx G m) → OkN hs bx F (plug c m)
  | [], F, n, m, _, h, ⟨G, g⟩ => okn_of g (by show dpn m ≤ F; simpa using h)
  | f :: c, 0, n, m, h, _, _ => h.elim
  | f :: c, F + 1, n, m, ⟨a, b, o, d⟩, h, g => by
    rw [List.length_cons] at h
    refine ⟨a, b, by simpa using o, fun q hq => ?_⟩
    rcases List.mem_append.mp hq with z | z
    · exact d q (List.mem_append_left _ z)
    · rcases List.mem_cons.mp z with e | e
      · rw [e]
        exact okn_plug_dep (d (plug c n) (by simp)) (by omega) g
      · exact d q (List.mem_append_right _ (List.mem_cons_of_mem _ e))
/-! ### what is too deep -/
theorem parts_deep {xs : List Int} {f : Nat → Rz (Nd × Nat)} : ∀ (l1 : List Nd) (b : Nd) (l2 : List Nd) {k : Nat} {r : List Int}, (∀ p ∈ l1, ∀ k r, xs.drop k = enc p ++ r → ∃ t, f k = .ok (t, k + (enc p).length) ∧ strip t = strip p) → (∀ k r, xs.drop k = enc b ++ r → ∃ e, f k = .error (e, ("deep" : Str))) → xs.drop k = encs (l1 ++ b :: l2) ++ r → ∃ e, partsP f (l1 ++ b :: l2).length k = .error (e, ("deep" : Str)) := by
  intro l1 b l2 k r h1 h2 e
  have e2 : xs.drop k = encs l1 ++ (enc b ++ (encs l2 ++ r)) := by
    rw [e, encs_app]
    show encs l1 ++ (enc b ++ encs l2) ++ r = _
    simp
  obtain ⟨ts, ht, _⟩ := parts_of (f := f) h1 e2 l1.length (Nat.le_refl _)
  rw [List.take_length] at ht
  obtain ⟨z, hz⟩ := h2 _ _ (drop_app e2)
  refine ⟨z, partsP_err (i := l1.length + 1) ?_ (by rw [List.length_append, List.length_cons]; omega)⟩
  show bindR (partsP f l1.length k) _ = _
  rw [bindR_of ht]
  exact bindR_of_err hz
/-- the first of a list of which something holds -/
theorem first_of {α : Type} {P : α → Prop} : ∀ {l : List α}, (∃ x ∈ l, P x) → ∃ l1 b l2, l = l1 ++ b :: l2 ∧ (∀ x ∈ l1, ¬ P x) ∧ P b
  | a :: l, ⟨x, hx, px⟩ => by
    by_cases c : P a
    · exact ⟨[], a, l, rfl, fun y hy => (by cases hy), c⟩
    · have : ∃ x ∈ l, P x := ⟨x, by
        rcases List.mem_cons.mp hx with e | e
        · rw [e] at px; exact absurd px c
        · exact e, px⟩
      obtain ⟨l1, b, l2, e, h1, h2⟩ := first_of this
      refine ⟨a :: l1, b, l2, by rw [e]; rfl, fun y hy => ?_, h2⟩
      rcases List.mem_cons.mp hy with z | z
      · rw [z]; exact c
      · exact h1 y z
theorem node_deep {xs : List Int} {hs : List (Int × Int)} {bx : Int} : ∀ {g : Nat} {F : Nat} {t : Nd} {k : Nat} {r : List Int}, OkN hs bx F t → g < dpn t → xs.drop k = enc t ++ r → ∃ e, nodeP xs hs bx g k = .error (e, ("deep" : Str))
  | 0, F, t, k, r, _, _, _ => ⟨k, rfl⟩
  | g + 1, 0, .mk _ _ _ _, k, r, h, _, _ => h.elim
  | g + 1, F + 1, .mk kind pl ns ps, k, r, ⟨h0, h1, ho, hp⟩, hd, e => by
    have hd : g + 1 < 1 + dpns ps := hd
    obtain ⟨l1, b, l2, el, hl1, hb⟩ := first_of (P := fun n => g < dpn n) (dpns_big (l := ps) (g := g) (by omega))
    have e : xs.drop k = kind :: (ns ++ encs ps ++ r) := by simpa [enc] using e
    obtain ⟨e1, e2⟩ := at_drop e
    rw [List.append_assoc] at e2
    have e3 := drop_app e2
    subst el
    obtain ⟨z, hz⟩ := parts_deep (f := nodeP xs hs bx g) l1 b l2 (fun p hm k r hk => node_of (okn_of (hp p (List.mem_append_left _ hm)) (Nat.le_of_not_lt (hl1 p hm))) hk) (fun k r hk => node_deep (hp b (by simp)) hb hk) e3
    refine ⟨z, ?_⟩
    unfold nodeP
    rw [bindR_of (withinP_of e1 h0 h1), bindR_of (ownP_of ho e2)]
    refine bindR_of_err ?_
    rw [show (((l1 ++ b :: l2).length : Int)).toNat = (l1 ++ b :: l2).length from Int.toNat_natCast _]
    exact hz
/-- of a list of bodies one is too deep -/
theorem sheet_deep {hs : List (Int × Int)} {ts : List Nd} (H : HeadsOK hs) (hl : ts.length = hs.length) {i : Nat} {h : Int × Int} {t : Nd} (ei : hs[i]? = some h) (et : ts[i]? = some t) (ho : ∀ (j : Nat) (h : Int × Int) (t : Nd), j < i → hs[j]? = some h → ts[j]? = some t → OkN hs h.2 10 t) (hd : 10 < dpn t) (ok : ∃ F, OkN hs h.2 F t) : ∃ e, funsP ((hs.length : Int) :: (flat hs ++ encs ts)) = .error (e, ("deep" : Str)) := by
  obtain ⟨F, ok⟩ := ok
  have hi := (List.getElem?_eq_some_iff.mp et).1
  have hi2 := (List.getElem?_eq_some_iff.mp ei).1
  have e : ((hs.length : Int) :: (flat hs ++ encs ts)).drop (1 + 2 * hs.length) = encs ts := by
    rw [Nat.add_comm, List.drop_succ_cons, ← flat_len hs, List.drop_left]
  have e1 : ts = ts.take i ++ t :: ts.drop (i + 1) := by
    conv => lhs; rw [← List.take_append_drop i ts, List.drop_eq_getElem_cons hi, (List.getElem?_eq_some_iff.mp et).2]
  have e2 : encs ts = encs (ts.take i) ++ (enc t ++ encs (ts.drop (i + 1))) := by
    conv => lhs; rw [e1]
    rw [encs_app]; rfl
  replace e := e.trans e2
  have pre : ∀ m, m ≤ i → ∃ bs, bodiesP ((hs.length : Int) :: (flat hs ++ encs ts)) hs m (1 + 2 * hs.length) = .ok (bs, (1 + 2 * hs.length) + (encs (ts.take m)).length) := by
    intro m
    induction m with
    | zero => exact fun _ => ⟨[], rfl⟩
    | succ m ih =>
      intro hm
      obtain ⟨bs, hb⟩ := ih (by omega)
      have hm' : m < hs.length := by omega
      have hmt : m < ts.length := by omega
      have eh : hs[m]? = some hs[m] := List.getElem?_eq_getElem hm'
      have f1 : ts = ts.take m ++ ts[m] :: ts.drop (m + 1) := by rw [← List.drop_eq_getElem_cons hmt, List.take_append_drop]
      have f2 : encs ts = encs (ts.take m) ++ (enc ts[m] ++ encs (ts.drop (m + 1))) := by
        conv => lhs; rw [f1]
        rw [encs_app]; rfl
      have e3 := (e.trans e2.symm).trans f2
      obtain ⟨t', ht', _⟩ := node_of (ho m _ _ (by omega) eh (List.getElem?_eq_getElem hmt)) (drop_app e3)
      have ed : hs.getD m (0, 0) = hs[m] := by rw [List.getD_eq_getElem?_getD, eh]; rfl
      refine ⟨bs ++ [t'], ?_⟩
      unfold bodiesP
      rw [bindR_of hb, ed, bindR_of ht', List.take_succ_eq_append_getElem hmt, encs_app]
      simp only [encs, List.append_nil, List.length_append]
      rw [Nat.add_assoc]
  obtain ⟨bs, hb⟩ := pre i (Nat.le_refl _)
  obtain ⟨z, hz⟩ := node_deep ok hd (drop_app e)
  have ed : hs.getD i (0, 0) = h := by rw [List.getD_eq_getElem?_getD, ei]; rfl
  refine ⟨z, ?_⟩
  unfold funsP
  rw [bindR_of (headsP_of H)]
  refine bindR_of_err (bodiesP_err (i := i + 1) ?_ (by omega))
  unfold bodiesP
  rw [bindR_of hb, ed]
  exact bindR_of_err hz
/-! ### places -/
mutual
def LocN : Nat → Nd → Prop
  | k, .mk _ p ns ps => p = (k : Int) ∧ LocL (k + 1 + ns.length) ps
def LocL : Nat → List Nd → Prop
  | _, [] => True
  | k, n :: l => LocN k n ∧ LocL (k + (enc n).length) l
end
theorem Cov.split {xs : List Int} : ∀ {a b : List Nd} {k k' : Nat}, Cov xs k (a ++ b) k' → ∃ m, Cov xs k a m ∧ Cov xs m b k'
  | [], b, k, k', h => ⟨k, rfl, h⟩
  | n :: a, b, k, k', ⟨h1, h2, h3, h4⟩ => by
    obtain ⟨m, g1, g2⟩ := Cov.split (a := a) h4
    exact ⟨m, ⟨h1, h2, h3, g1⟩, g2⟩
mutual
theorem cov_n {xs : List Int} : ∀ (n : Nd) {k k' : Nat}, Cov xs k (pre n) k' → LocN k n ∧ k' = k + (enc n).length
  | .mk kd p ns ps, k, k', ⟨h1, _, _, h4⟩ => by
    obtain ⟨a, b⟩ := cov_l ps (k := k + 1 + ns.length) (k' := k') h4
    refine ⟨⟨h1, a⟩, ?_⟩
    show k' = k + (kd :: (ns ++ encs ps)).length
    rw [List.length_cons, List.length_append, b]
    omega
theorem cov_l {xs : List Int} : ∀ (l : List Nd) {k k' : Nat}, Cov xs k (pres l) k' → LocL k l ∧ k' = k + (encs l).length
  | [], k, k', h => ⟨trivial, by rw [← show k = k' from h]; rfl⟩
  | n :: l, k, k', h => by
    obtain ⟨m, g1, g2⟩ := Cov.split (a := pre n) h
    obtain ⟨a1, a2⟩ := cov_n n g1
    subst a2
    obtain ⟨b1, b2⟩ := cov_l l g2
    refine ⟨⟨a1, b1⟩, ?_⟩
    show k' = k + (enc n ++ encs l).length
    rw [List.length_append, b2]
    omega
end
/-- the place of the node of a number -/
theorem cov_place {xs : List Int} : ∀ {a : List Nd} {k k' i : Nat} {m : Nd}, Cov xs k a k' → a[i]? = some m → m.place = ((k + (((a.take i).map bare).flatMap encB).length : Nat) : Int)
  | n :: a, k, k', 0, m, ⟨h1, _⟩, e => by cases e; rw [h1]; rfl
  | n :: a, k, k', i + 1, m, ⟨_, _, _, h4⟩, e => by
    have := cov_place (a := a) h4 (by simpa using e)
    rw [this, List.take_succ_cons, List.map_cons, List.flatMap_cons, List.length_append]
    congr 1
    show k + 1 + n.nums.length + _ = k + ((n.kind :: n.nums).length + _)
    rw [List.length_cons]
    omega
/-! ### how deep each node is: a stack of ends -/
def popB (p : Int) (s : List Int) : List Int := (s.reverse.dropWhile fun x => decide (x ≤ p)).reverse
theorem popB_nil (p : Int) : popB p [] = [] := rfl
theorem popB_le {p x : Int} (s : List Int) (h : x ≤ p) : popB p (s ++ [x]) = popB p s := by
  unfold popB
  rw [List.reverse_append, List.reverse_singleton, List.singleton_append, List.dropWhile_cons, if_pos (by simpa using h)]
theorem popB_gt {p x : Int} (s : List Int) (h : p < x) : popB p (s ++ [x]) = s ++ [x] := by
  unfold popB
  rw [List.reverse_append, List.reverse_singleton, List.singleton_append, List.dropWhile_cons, if_neg (by simp; omega), List.reverse_cons, List.reverse_reverse]
theorem snoc_of {α : Type} : ∀ {l : List α}, l ≠ [] → ∃ a x, l = a ++ [x]
  | l, h => ⟨l.dropLast, l.getLast h, (List.dropLast_concat_getLast h).symm⟩
theorem popB_app {p : Int} {S : List Int} (hS : ∀ s ∈ S, p < s) : ∀ (n : Nat) {T : List Int}, T.length = n → (∀ x ∈ T, x ≤ p) → popB p (S ++ T) = S
  | 0, T, hl, _ => by
    rw [List.eq_nil_of_length_eq_zero hl, List.append_nil]
    by_cases c : S = []
    · rw [c]; rfl
    · obtain ⟨a, x, e⟩ := snoc_of c
      rw [e, popB_gt a (hS x (by rw [e]; simp))]
  | n + 1, T, hl, hT => by
    obtain ⟨a, x, e⟩ := snoc_of (l := T) (fun z => by rw [z] at hl; cases hl)
    subst e
    rw [← List.append_assoc, popB_le _ (hT x (by simp))]
    exact popB_app hS n (by simpa using hl) fun y hy => hT y (List.mem_append_left _ hy)
abbrev DSt := List Int × Int × List (Nat × Int)
def stp (st : DSt) (n : Nd) : DSt := (popB n.place st.1 ++ [n.place + ((enc n).length : Nat)], (if popB n.place st.1 = [] then st.2.1 + 1 else st.2.1), st.2.2 ++ [((popB n.place st.1).length + 1, if popB n.place st.1 = [] then st.2.1 + 1 else st.2.1)])
mutual
theorem stp_n : ∀ (n : Nd) (k : Nat) (S T : List Int) (fn : Int) (out : List (Nat × Int)), LocN k n → (∀ x ∈ T, x ≤ (k : Int)) → (∀ s ∈ S, ((k + (enc n).length : Nat) : Int) ≤ s) →
    ∃ T', (pre n).foldl stp (S ++ T, fn, out) = (S ++ T', (if S = [] then fn + 1 else fn), out ++ (dps (S.length + 1) n).map fun d => (d, if S = [] then fn + 1 else fn)) ∧ ∀ x ∈ T', x ≤ ((k + (enc n).length : Nat) : Int)
  | .mk kd p ns ps, k, S, T, fn, out, ⟨hp, hl⟩, hT, hS => by
    have len : (enc (.mk kd p ns ps)).length = 1 + ns.length + (encs ps).length := by show (kd :: (ns ++ encs ps)).length = _; rw [List.length_cons, List.length_append]; omega
    rw [len] at hS
    have pop : popB p (S ++ T) = S := popB_app (fun s hs => by have := hS s hs; omega) _ rfl (fun x hx => by have := hT x hx; omega)
    obtain ⟨T', h1, h2⟩ := stp_l ps (k + 1 + ns.length) (S ++ [((k + (1 + ns.length + (encs ps).length) : Nat) : Int)]) [] (if S = [] then fn + 1 else fn) (out ++ [(S.length + 1, if S = [] then fn + 1 else fn)]) (by simp) hl (fun x hx => by cases hx) (fun s hs => by
      rcases List.mem_append.mp hs with z | z
      · have := hS s z; omega
      · rw [List.mem_singleton.mp z]; omega)
    refine ⟨((k + (1 + ns.length + (encs ps).length) : Nat) : Int) :: T', ?_, fun x hx => ?_⟩
    · show (pres ps).foldl stp (stp (S ++ T, fn, out) (.mk kd p ns ps)) = _
      have e : stp (S ++ T, fn, out) (.mk kd p ns ps) = (S ++ [((k + (1 + ns.length + (encs ps).length) : Nat) : Int)] ++ [], (if S = [] then fn + 1 else fn), out ++ [(S.length + 1, if S = [] then fn + 1 else fn)]) := by
        unfold stp
        rw [show popB (Nd.mk kd p ns ps).place (S ++ T, fn, out).1 = S from pop, len, show (Nd.mk kd p ns ps).place = (k : Int) from hp, List.append_nil]
        rw [show ((k : Int) + ((1 + ns.length + (encs ps).length : Nat) : Int)) = ((k + (1 + ns.length + (encs ps).length) : Nat) : Int) by omega]
      rw [e, h1]
      show _ = (_, _, out ++ ((S.length + 1) :: dpss (S.length + 1 + 1) ps).map _)
      rw [List.length_append, List.length_singleton, List.map_cons, List.append_assoc, List.append_assoc]
      rfl
    · rcases List.mem_cons.mp hx with z | z
      · rw [z, len]; omega
      · have := h2 x z
        rw [len]; omega
theorem stp_l : ∀ (l : List Nd) (k : Nat) (S T : List Int) (fn : Int) (out : List (Nat × Int)), S ≠ [] → LocL k l → (∀ x ∈ T, x ≤ (k : Int)) → (∀ s ∈ S, ((k + (encs l).length : Nat) : Int) ≤ s) →
    ∃ T', (pres l).foldl stp (S ++ T, fn, out) = (S ++ T', fn, out ++ (dpss (S.length + 1) l).map fun d => (d, fn)) ∧ ∀ x ∈ T', x ≤ ((k + (encs l).length : Nat) : Int)
  | [], k, S, T, fn, out, _, _, hT, _ => ⟨T, by show (S ++ T, fn, out) = _; simp [dpss], fun x hx => by have := hT x hx; show x ≤ ((k + 0 : Nat) : Int); omega⟩
  | n :: l, k, S, T, fn, out, hne, ⟨a, b⟩, hT, hS => by
    have len : (encs (n :: l)).length = (enc n).length + (encs l).length := by show (enc n ++ encs l).length = _; rw [List.length_append]
    rw [len] at hS
    obtain ⟨T1, h1, h2⟩ := stp_n n k S T fn out a hT (fun s hs => by have := hS s hs; omega)
    obtain ⟨T2, h3, h4⟩ := stp_l l (k + (enc n).length) S T1 fn (out ++ (dps (S.length + 1) n).map fun d => (d, fn)) hne b h2 (fun s hs => by have := hS s hs; omega)
    rw [if_neg hne] at h1
    refine ⟨T2, ?_, fun x hx => by have := h4 x hx; rw [len]; omega⟩
    show (pre n ++ pres l).foldl stp _ = _
    rw [List.foldl_append, h1, h3]
    show _ = (_, _, out ++ (dps _ n ++ dpss _ l).map _)
    rw [List.map_append, List.append_assoc]
end
def dfs : List Nd → Int → List (Nat × Int)
  | [], _ => []
  | b :: bs, i => ((dps 1 b).map fun d => (d, i)) ++ dfs bs (i + 1)
theorem stp_b : ∀ (l : List Nd) (k : Nat) (T : List Int) (fn : Int) (out : List (Nat × Int)), LocL k l → (∀ x ∈ T, x ≤ (k : Int)) → ∃ T', (pres l).foldl stp (T, fn, out) = (T', fn + (l.length : Int), out ++ dfs l (fn + 1))
  | [], k, T, fn, out, _, _ => ⟨T, by show (T, fn, out) = _; simp [dfs]⟩
  | n :: l, k, T, fn, out, ⟨a, b⟩, hT => by
    obtain ⟨T1, h1, h2⟩ := stp_n n k [] T fn out a hT (fun s hs => by cases hs)
    rw [List.nil_append, List.nil_append, if_pos rfl] at h1
    obtain ⟨T2, h3⟩ := stp_b l (k + (enc n).length) T1 (fn + 1) (out ++ (dps 1 n).map fun d => (d, fn + 1)) b h2
    refine ⟨T2, ?_⟩
    show (pre n ++ pres l).foldl stp _ = _
    rw [List.foldl_append, h1]
    show (pres l).foldl stp (T1, fn + 1, out ++ (dps 1 n).map fun d => (d, fn + 1)) = _
    rw [h3]
    show _ = (_, _, out ++ (((dps 1 n).map fun d => (d, fn + 1)) ++ dfs l (fn + 1 + 1)))
    rw [List.append_assoc, List.length_cons]
    congr 2
    omega
theorem dfs_len : ∀ (l : List Nd) (z : Int), (dfs l z).length = (pres l).length
  | [], _ => rfl
  | n :: l, z => by show (((dps 1 n).map fun d => (d, z)) ++ dfs l (z + 1)).length = (pre n ++ pres l).length; rw [List.length_append, List.length_append, List.length_map, dps_len, dfs_len l]
theorem body_ctx : ∀ (ps : List Nd) (i : Nat) (m : Nd), (pres ps)[i]? = some m → ∃ l b r c, ps = l ++ b :: r ∧ b = plug c m ∧ (pres l).length + (bareA c).length = i ∧ ∀ z : Int, (dfs ps z)[i]? = some (1 + c.length, z + (l.length : Int))
  | [], i, m, h => by simp [pres] at h
  | n :: ps, i, m, h => by
    have h : (pre n ++ pres ps)[i]? = some m := h
    by_cases q : i < (pre n).length
    · rw [List.getElem?_append_left q] at h
      obtain ⟨c, e1, e2, e3⟩ := pre_ctx n i m h
      refine ⟨[], n, ps, c, rfl, e1, by show 0 + _ = _; omega, fun z => ?_⟩
      show (((dps 1 n).map fun d => (d, z)) ++ dfs ps (z + 1))[i]? = _
      rw [List.getElem?_append_left (by rw [List.length_map, dps_len]; exact q), List.getElem?_map, e3 1]
      simp
    · rw [List.getElem?_append_right (by omega)] at h
      obtain ⟨l, b, r, c, e1, e2, e3, e4⟩ := body_ctx ps _ m h
      refine ⟨n :: l, b, r, c, by rw [e1]; rfl, e2, by show (pre n ++ pres l).length + _ = _; rw [List.length_append]; omega, fun z => ?_⟩
      show (((dps 1 n).map fun d => (d, z)) ++ dfs ps (z + 1))[i]? = _
      rw [List.getElem?_append_right (by rw [List.length_map, dps_len]; omega), List.length_map, dps_len, e4 (z + 1), List.length_cons]
      congr 2
      omega
/-! ### a node exchanged -/
mutual
theorem pre_strip : ∀ n : Nd, pre (strip n) = (pre n).map strip
  | .mk k p ns ps => by show Nd.mk k 0 ns (strips ps) :: pres (strips ps) = (Nd.mk k p ns ps :: pres ps).map strip; rw [pres_strip ps]; rfl
theorem pres_strip : ∀ l : List Nd, pres (strips l) = (pres l).map strip
  | [] => rfl
  | n :: l => by show pre (strip n) ++ pres (strips l) = (pre n ++ pres l).map strip; rw [List.map_append, pre_strip n, pres_strip l]
end
theorem bare_strip (n : Nd) : bare (strip n) = bare n := by cases n; rfl
theorem bares_strip (l : List Nd) : (l.map strip).map bare = l.map bare := by
  rw [List.map_map]
  exact List.map_congr_left fun n _ => bare_strip n
theorem enc_st {a b : Nd} (h : strip a = strip b) : enc a = enc b := by
  rw [enc_bare a, enc_bare b, ← bares_strip (pre a), ← bares_strip (pre b), ← pre_strip, ← pre_strip, h]
def BA (l : List Nd) (c : List Fr) : List Br := (pres l).map bare ++ bareA c
def BB (c : List Fr) (r : List Nd) : List Br := bareB c ++ (pres r).map bare
theorem BA_len (l : List Nd) (c : List Fr) : (BA l c).length = (pres l).length + (bareA c).length := by unfold BA; rw [List.length_append, List.length_map]
theorem bares_mid (l : List Nd) (c : List Fr) (m : Nd) (r : List Nd) : (pres (l ++ plug c m :: r)).map bare = BA l c ++ ((pre m).map bare ++ BB c r) := by
  rw [pres_mid, List.map_append, List.map_append, pre_plug]
  unfold BA BB
  simp
theorem encs_mid (l : List Nd) (c : List Fr) (m : Nd) (r : List Nd) : encs (l ++ plug c m :: r) = (BA l c).flatMap encB ++ (enc m ++ (BB c r).flatMap encB) := by
  rw [encs_bare, bares_mid, List.flatMap_append, List.flatMap_append, ← enc_bare]
theorem at_mid (l : List Nd) (c : List Fr) (m : Nd) (r : List Nd) : (pres (l ++ plug c m :: r))[(BA l c).length]? = some m := by
  have h := pre_at_plug c m
  have hl := (List.getElem?_eq_some_iff.mp h).1
  rw [BA_len, pres_mid, List.getElem?_append_right (by omega), Nat.add_sub_cancel_left, List.getElem?_append_left hl]
  exact h
/-- where a node stands in a sheet -/
structure Wh (xs : List Int) (hs : List (Int × Int)) (bs : List Nd) (i : Nat) (m : Nd) (l r : List Nd) (c : List Fr) (hd : Int × Int) : Prop where
  eb : bs = l ++ plug c m :: r
  ix : (BA l c).length = i
  dx : (dfs bs 0)[i]? = some (1 + c.length, (l.length : Int))
  hx : hs[l.length]? = some hd
  cx : c.length ≤ 10
  ox : OkN hs hd.2 (10 - c.length) m
  wx : OkN hs hd.2 10 (plug c m)
  px : m.place = ((1 + 2 * hs.length + ((BA l c).flatMap encB).length : Nat) : Int)
theorem wh_of {xs : List Int} {hs : List (Int × Int)} {bs : List Nd} (h : funsP xs = .ok (hs, bs)) {i : Nat} {m : Nd} (e : (pres bs)[i]? = some m) : ∃ l r c hd, Wh xs hs bs i m l r c hd := by
  have F := funsP_okn h
  obtain ⟨l, b, r, c, e1, e2, e3, e4⟩ := body_ctx bs i m e
  have hb : bs[l.length]? = some b := by rw [e1, List.getElem?_append_right (Nat.le_refl _), Nat.sub_self]; rfl
  have hl : l.length < hs.length := by rw [← F.l]; exact (List.getElem?_eq_some_iff.mp hb).1
  have eh : hs[l.length]? = some hs[l.length] := List.getElem?_eq_getElem hl
  have w := F.ok _ _ _ eh hb
  rw [e2] at w
  obtain ⟨o1, o2⟩ := okn_sub w
  have ib : (BA l c).length = i := by rw [BA_len]; exact e3
  refine ⟨l, r, c, hs[l.length], by rw [e1, e2], ib, by rw [e4 0, Int.zero_add], eh, o1, o2, w, ?_⟩
  have pl := cov_place (funs_cov h) e
  rw [pl]
  have : ((pres bs).take i).map bare = BA l c := by
    rw [List.map_take, e1, e2, bares_mid, ← ib, List.take_left]
  rw [this]
theorem head_len (hs : List (Int × Int)) : ((hs.length : Int) :: flat hs).length = 1 + 2 * hs.length := by rw [List.length_cons, flat_len]; omega
section
variable {xs : List Int} {hs : List (Int × Int)} {bs : List Nd} {i : Nat} {m : Nd} {l r : List Nd} {c : List Fr} {hd : Int × Int}
theorem Wh.list (W : Wh xs hs bs i m l r c hd) (h : funsP xs = .ok (hs, bs)) : xs = ((hs.length : Int) :: flat hs) ++ ((BA l c).flatMap encB ++ (enc m ++ (BB c r).flatMap encB)) := by
  have := funs_eq h
  rw [W.eb, encs_mid] at this
  exact this
/-- the list with other numbers in a node's place -/
theorem Wh.put (W : Wh xs hs bs i m l r c hd) (h : funsP xs = .ok (hs, bs)) (p : Nat) (hp : m.place = (p : Int)) (ys : List Int) : xs.take p ++ ys ++ xs.drop (p + (enc m).length) = ((hs.length : Int) :: flat hs) ++ ((BA l c).flatMap encB ++ (ys ++ (BB c r).flatMap encB)) ∧ p + (enc m).length ≤ xs.length ∧ (xs.drop p).take (enc m).length = enc m := by
  have e := W.list h
  have pe : p = (((hs.length : Int) :: flat hs) ++ (BA l c).flatMap encB).length := by
    rw [List.length_append, head_len]
    have := W.px
    omega
  have e2 : xs = (((hs.length : Int) :: flat hs) ++ (BA l c).flatMap encB) ++ (enc m ++ (BB c r).flatMap encB) := by rw [e]; simp
  have d : xs.drop p = enc m ++ (BB c r).flatMap encB := by rw [e2, pe, List.drop_left]
  refine ⟨?_, ?_, by rw [d, List.take_left]⟩
  · rw [← List.drop_drop, d, List.drop_left, e2, pe, List.take_left]
    simp
  · rw [e2, pe]
    simp only [List.length_append]
    omega
theorem Wh.new (t : Nd) : ((hs.length : Int) :: flat hs) ++ ((BA l c).flatMap encB ++ (enc t ++ (BB c r).flatMap encB)) = (hs.length : Int) :: (flat hs ++ encs (l ++ plug c t :: r)) := by
  rw [encs_mid]; rfl
theorem Wh.get (W : Wh xs hs bs i m l r c hd) (h : funsP xs = .ok (hs, bs)) {t : Nd} (j : Nat) (x : Int × Int) (y : Nd) (n : j ≠ l.length) (e1 : hs[j]? = some x) (e2 : (l ++ plug c t :: r)[j]? = some y) : OkN hs x.2 10 y := by
  have F := funsP_okn h
  refine F.ok j x y e1 ?_
  rw [W.eb]
  by_cases z : j < l.length
  · rw [List.getElem?_append_left z] at e2 ⊢; exact e2
  · rw [List.getElem?_append_right (by omega)] at e2 ⊢
    obtain ⟨w, ew⟩ : ∃ w, j - l.length = w + 1 := ⟨j - l.length - 1, by omega⟩
    rw [ew, List.getElem?_cons_succ] at e2 ⊢
    exact e2
theorem Wh.ok (W : Wh xs hs bs i m l r c hd) (h : funsP xs = .ok (hs, bs)) {t : Nd} (ht : ∃ G, OkN hs hd.2 G t) (hD : c.length + dpn t ≤ 10) : ∃ bs', funsP (((hs.length : Int) :: flat hs) ++ ((BA l c).flatMap encB ++ (enc t ++ (BB c r).flatMap encB))) = .ok (hs, bs') ∧ (pres bs').map bare = BA l c ++ ((pre t).map bare ++ BB c r) ∧ ∃ m2, (pres bs')[i]? = some m2 ∧ enc m2 = enc t := by
  have F := funsP_okn h
  have hl : (l ++ plug c t :: r).length = hs.length := by
    have := F.l
    rw [W.eb] at this
    simpa using this
  obtain ⟨bs', f, st⟩ := sheet_ofS F.h hl fun j x y e1 e2 => by
    by_cases n : j = l.length
    · subst n
      rw [W.hx] at e1
      cases e1
      rw [List.getElem?_append_right (Nat.le_refl _), Nat.sub_self] at e2
      cases e2
      exact okn_plug_dep W.wx hD ht
    · exact W.get h j x y n e1 e2
  have ps : (pres bs').map strip = (pres (l ++ plug c t :: r)).map strip := by rw [← pres_strip, ← pres_strip, strips_map, strips_map, st]
  refine ⟨bs', by rw [Wh.new]; exact f, ?_, ?_⟩
  · rw [← bares_mid, ← bares_strip (pres bs'), ps, bares_strip]
  · have a := at_mid l c t r
    have b := congrArg (·[i]?) ps
    simp only [List.getElem?_map] at b
    rw [← W.ix, a] at b
    rw [← W.ix]
    cases e : (pres bs')[(BA l c).length]? with
    | none => rw [e] at b; cases b
    | some m2 => rw [e] at b; exact ⟨m2, rfl, enc_st (Option.some.inj b)⟩
theorem Wh.deep (W : Wh xs hs bs i m l r c hd) (h : funsP xs = .ok (hs, bs)) {t : Nd} (ht : ∃ G, OkN hs hd.2 G t) (big : 10 < c.length + dpn t) : ∃ e, funsP (((hs.length : Int) :: flat hs) ++ ((BA l c).flatMap encB ++ (enc t ++ (BB c r).flatMap encB))) = .error (e, ("deep" : Str)) := by
  have F := funsP_okn h
  obtain ⟨G, ht⟩ := ht
  have hl : (l ++ plug c t :: r).length = hs.length := by
    have := F.l
    rw [W.eb] at this
    simpa using this
  have hG := okn_dep ht
  have up : OkN hs hd.2 (G + 10) t := okn_of ht (by omega)
  rw [Wh.new]
  refine sheet_deep F.h hl (i := l.length) (t := plug c t) W.hx (by rw [List.getElem?_append_right (Nat.le_refl _), Nat.sub_self]; rfl) (fun j x y hj e1 e2 => W.get h j x y (by omega) e1 e2) ?_ ⟨_, okn_plug W.wx up (by omega)⟩
  have := plug_dep c t
  omega
end
/-! ### steps -/
theorem s_neN {K : PySem.W.Frag} {H : Hp} {Q : VK} {p q : Addr} {xs : List V} (h1 : H p = some (.lst xs)) (h2 : H q = some (.lst [])) (h : Q (.bl (!decide (xs.length = 0))) H) : rNeU K (.ref p) (.ref q) H Q := by
  cases xs with
  | nil =>
    have sh : Sh 1 (.list []) := Sh.list fun z hz => by cases hz
    refine s_ne_d (d := .list []) (e := .list []) (.lst (SqL.of h1) .nil) (.lst (SqL.of h2) .nil) (sh.shaped (by decide)) (sh.shaped (by decide)) ?_
    rw [sh.refl]
    exact h
  | cons x xs => exact s_ne_len h1 h2 (by simp) (by simpa using h)
theorem s_eqN {K : PySem.W.Frag} {H : Hp} {Q : VK} {p q : Addr} {xs : List V} (h1 : H p = some (.lst xs)) (h2 : H q = some (.lst [])) (h : Q (.bl (decide (xs.length = 0))) H) : rEqU K (.ref p) (.ref q) H Q := by
  cases xs with
  | nil =>
    have sh : Sh 1 (.list []) := Sh.list fun z hz => by cases hz
    refine s_eq_d (d := .list []) (e := .list []) (.lst (SqL.of h1) .nil) (.lst (SqL.of h2) .nil) (sh.shaped (by decide)) (sh.shaped (by decide)) ?_
    rw [sh.refl]
    exact h
  | cons x xs => exact s_eq_len h1 h2 (by simp) (by simpa using h)
/-! ### the promises of the law's own -/
def q_Lmany (Z : Adr) (a : V) (H : Hp) (Q : VK) (E : XK) : Prop := ∃ (v : V) (n : Nd), a = v ∧ NodeAt H n v ∧ (enc n).length ≤ 300000 ∧ ∀ H', Same H H' → Q (.int ((enc n).length : Nat)) H'
def q_Ldepth (Z : Adr) (a : V) (H : Hp) (Q : VK) (E : XK) : Prop := ∃ (v : V) (n : Nd), a = v ∧ NodeAt H n v ∧ (enc n).length ≤ 300000 ∧ ∀ H', Same H H' → Q (.int (dpn n : Nat)) H'
/-- what is told of depths: depth and function, as tuples -/
def DepsAt (H : Hp) : List (Nat × Int) → List V → Prop
  | [], vs => vs = []
  | d :: ds, vs => ∃ t us, vs = .ref t :: us ∧ H t = some (.tup [.int (d.1 : Int), .int d.2]) ∧ DepsAt H ds us
theorem DepsAt.mono {H H' : Hp} (S : TupS H H') : ∀ {ds : List (Nat × Int)} {vs : List V}, DepsAt H ds vs → DepsAt H' ds vs
  | [], _, h => h
  | _ :: _, _, ⟨t, us, e, h1, h2⟩ => ⟨t, us, e, S _ _ h1, h2.mono S⟩
theorem DepsAt.len {H : Hp} : ∀ {ds : List (Nat × Int)} {vs : List V}, DepsAt H ds vs → vs.length = ds.length
  | [], _, h => by rw [show _ = [] from h]; rfl
  | _ :: _, _, ⟨t, us, e, _, h2⟩ => by rw [e, List.length_cons, List.length_cons, h2.len]
theorem DepsAt.app {H : Hp} {d : Nat × Int} {t : Addr} (h : H t = some (.tup [.int (d.1 : Int), .int d.2])) : ∀ {ds : List (Nat × Int)} {vs : List V}, DepsAt H ds vs → DepsAt H (ds ++ [d]) (vs ++ [.ref t])
  | [], _, e => by rw [show _ = [] from e]; exact ⟨t, [], rfl, h, rfl⟩
  | _ :: _, _, ⟨t', us, e, h1, h2⟩ => by rw [e]; exact ⟨t', us ++ [.ref t], rfl, h1, h2.app h⟩
theorem DepsAt.get {H : Hp} : ∀ {ds : List (Nat × Int)} {vs : List V} {i : Nat} {d : Nat × Int}, DepsAt H ds vs → ds[i]? = some d → ∃ t, vs[i]? = some (.ref t) ∧ H t = some (.tup [.int (d.1 : Int), .int d.2])
  | d :: _, _, 0, _, ⟨t, us, e0, h1, _⟩, e => by cases e; rw [e0]; exact ⟨t, rfl, h1⟩
  | _ :: ds, _, i + 1, _, ⟨t, us, e0, _, h2⟩, e => by
    obtain ⟨t', a, b⟩ := DepsAt.get (ds := ds) (i := i) h2 (by simpa using e)
    rw [e0]
    exact ⟨t', by simpa using a, b⟩
def q_Ldepths (Z : Adr) (a : V) (H : Hp) (Q : VK) (E : XK) : Prop := ∃ (l : Addr) (vs : List V) (bs : List Nd) (k : Nat), a = .ref l ∧ H l = some (.lst vs) ∧ NodesAt H (pres bs) vs ∧ LocL k bs ∧ (encs bs).length ≤ 300000 ∧ ∀ ld us H', Same H H' → H ld = none → H' ld = some (.lst us) → DepsAt H' (dfs bs 0) us → Q (.ref ld) H'
/-- nodes that wait, each with its depth -/
def WaitD (H : Hp) : List (Nd × Nat) → List V → Prop
  | [], vs => vs = []
  | n :: ns, vs => ∃ t v us, vs = .ref t :: us ∧ H t = some (.tup [v, .int (n.2 : Int)]) ∧ NodeAt H n.1 v ∧ WaitD H ns us
theorem WaitD.mono {H H' : Hp} (S : TupS H H') : ∀ {ns : List (Nd × Nat)} {vs : List V}, WaitD H ns vs → WaitD H' ns vs
  | [], _, h => h
  | _ :: _, _, ⟨t, v, us, e, h1, h2, h3⟩ => ⟨t, v, us, e, S _ _ h1, h2.mono S, h3.mono S⟩
theorem WaitD.len {H : Hp} : ∀ {ns : List (Nd × Nat)} {vs : List V}, WaitD H ns vs → vs.length = ns.length
  | [], _, h => by rw [show _ = [] from h]; rfl
  | _ :: _, _, ⟨t, v, us, e, _, _, h3⟩ => by rw [e, List.length_cons, List.length_cons, h3.len]
theorem WaitD.last {H : Hp} : ∀ {ns : List (Nd × Nat)} {n : Nd × Nat} {vs : List V}, WaitD H (ns ++ [n]) vs → ∃ us t, vs = us ++ [.ref t] ∧ WaitD H ns us ∧ ∃ v, H t = some (.tup [v, .int (n.2 : Int)]) ∧ NodeAt H n.1 v
  | [], n, _, ⟨t, v, us, e, h1, h2, h3⟩ => ⟨[], t, by rw [e, show us = [] from h3]; rfl, rfl, v, h1, h2⟩
  | _ :: _, n, _, ⟨t, v, us, e, h1, h2, h3⟩ => by
    obtain ⟨ws, t', e', a, b⟩ := WaitD.last h3
    exact ⟨.ref t :: ws, t', by rw [e, e']; rfl, ⟨t, v, ws, rfl, h1, h2, a⟩, b⟩
theorem WaitD.append {H : Hp} : ∀ {a b : List (Nd × Nat)} {vs ws : List V}, WaitD H a vs → WaitD H b ws → WaitD H (a ++ b) (vs ++ ws)
  | [], _, _, _, h, g => by rw [show _ = [] from h]; exact g
  | _ :: _, _, _, _, ⟨t, v, us, e, h1, h2, h3⟩, g => by rw [e]; exact ⟨t, v, us ++ _, rfl, h1, h2, h3.append g⟩
def sumE : List (Nd × Nat) → Nat
  | [] => 0
  | n :: ns => (enc n.1).length + sumE ns
def mxD : List (Nd × Nat) → Nat
  | [] => 0
  | n :: ns => Nat.max (n.2 - 1 + dpn n.1) (mxD ns)
theorem sumE_app : ∀ a b : List (Nd × Nat), sumE (a ++ b) = sumE a + sumE b
  | [], b => by simp [sumE]
  | x :: a, b => by show _ + sumE (a ++ b) = _ + sumE a + sumE b; rw [sumE_app a b]; omega
theorem mxD_app : ∀ a b : List (Nd × Nat), mxD (a ++ b) = Nat.max (mxD a) (mxD b)
  | [], b => by show mxD b = Nat.max 0 (mxD b); exact (Nat.zero_max _).symm
  | x :: a, b => by show Nat.max _ (mxD (a ++ b)) = Nat.max (Nat.max _ (mxD a)) (mxD b); rw [mxD_app a b]; exact (Nat.max_assoc _ _ _).symm
theorem sumE_parts (d : Nat) : ∀ l : List Nd, sumE (l.map fun p => (p, d)) = (encs l).length
  | [] => rfl
  | x :: l => by show (enc x).length + sumE (l.map _) = (enc x ++ encs l).length; rw [sumE_parts d l, List.length_append]
theorem mxD_parts (d : Nat) : ∀ l : List Nd, mxD (l.map fun p => (p, d + 1)) = if l = [] then 0 else d + dpns l
  | [] => rfl
  | [x] => by show Nat.max (d + 1 - 1 + dpn x) 0 = d + Nat.max (dpn x) 0; rw [Nat.add_sub_cancel]; simp [Nat.max_def]
  | x :: y :: l => by
    have ih := mxD_parts d (y :: l)
    show Nat.max (d + 1 - 1 + dpn x) (mxD ((y :: l).map fun p => (p, d + 1))) = d + Nat.max (dpn x) (dpns (y :: l))
    rw [ih, if_neg (by simp), Nat.add_sub_cancel]
    exact (Nat.add_max_add_left _ _ _)
theorem popB_len (p : Int) (s : List Int) : (popB p s).length ≤ s.length := by
  unfold popB
  rw [List.length_reverse]
  have := (List.dropWhile_sublist (fun x => decide (x ≤ p)) (l := s.reverse)).length_le
  rw [List.length_reverse] at this
  exact this
theorem stp_len : ∀ (l : List Nd) (st : DSt), (l.foldl stp st).1.length ≤ st.1.length + l.length ∧ (l.foldl stp st).2.2.length = st.2.2.length + l.length
  | [], st => ⟨Nat.le_refl _, rfl⟩
  | n :: l, st => by
    obtain ⟨a, b⟩ := stp_len l (stp st n)
    have c := popB_len n.place st.1
    have d : (stp st n).1.length = (popB n.place st.1).length + 1 := by unfold stp; rw [List.length_append]; rfl
    have e : (stp st n).2.2.length = st.2.2.length + 1 := by unfold stp; rw [List.length_append]; rfl
    rw [d] at a
    rw [e] at b
    rw [List.length_cons]
    exact ⟨by show (List.foldl stp (stp st n) l).1.length ≤ _; omega, by show (List.foldl stp (stp st n) l).2.2.length = _; omega⟩
theorem pres_le : ∀ l : List Nd, (pres l).length ≤ (encs l).length := fun l => by
  rw [encs_bare]
  have : ∀ b : List Br, b.length ≤ (b.flatMap encB).length := fun b => by
    induction b with
    | nil => exact Nat.zero_le _
    | cons x b ih =>
      rw [List.flatMap_cons, List.length_append, List.length_cons]
      show _ ≤ (x.1 :: x.2).length + _
      rw [List.length_cons]
      omega
  have a := this ((pres l).map bare)
  rw [List.length_map] at a
  exact a
theorem s_andj {b : Bool} {u : L2.St → Hp → (Bool → Hp → Prop) → Prop} {σ : L2.St} {H : Hp} {QB : Bool → Hp → Prop} (P0 P1 : Hp → Prop) (h : ∀ N' : Bool → Hp → Prop, (∀ H', P0 H' → N' false H') → (∀ H', P1 H' → N' true H') → zIf b (u σ H N') (N' false H)) (h1 : ∀ H', P1 H' → QB true H') (h0 : ∀ H', P0 H' → QB false H') : zIf b (u σ H QB) (QB false H) := h QB h0 h1
theorem enc_mem {l : List Nd} {i : Nat} {m : Nd} (e : (pres l)[i]? = some m) : (enc m).length ≤ (encs l).length := by
  obtain ⟨a, b, r, c, e1, e2, _, _⟩ := body_ctx l i m e
  rw [e1, e2, encs_mid, List.length_append, List.length_append]
  omega
theorem same_two {p q : Addr} {H H1 H2 : Hp} (a : Same H H1) (b : But2 p q H1 H2) (hp : H p = none) (hq : H q = none) : Same H H2 := ⟨fun c o h k => b.st c o (.inl ⟨ne_of_none h hp, ne_of_none h hq⟩) (a.st c o h k) k, fun c ps h => (a.tb c ps h).elim fun ps' z => b.tb c ps' z, fun c t => b.tt c (a.tt c t)⟩
/-- numbers of the nodes in a function -/
def inF (ds : List (Nat × Int)) (f : Int) (n : Nat) : List Int := ((List.range n).filter fun k => decide ((ds.getD k (0, -1)).2 = f)).map fun k : Nat => (k : Int)
theorem inF_mem {ds : List (Nat × Int)} {f x : Int} (h : x ∈ inF ds f ds.length) : ∃ (k : Nat) (d : Nat), x = (k : Int) ∧ ds[k]? = some (d, f) := by
  obtain ⟨k, hk, rfl⟩ := List.mem_map.mp h
  obtain ⟨h1, h2⟩ := List.mem_filter.mp hk
  have h1 := List.mem_range.mp h1
  have h2 := of_decide_eq_true h2
  have e : ds[k]? = some ds[k] := List.getElem?_eq_getElem h1
  rw [List.getD_eq_getElem?_getD, e] at h2
  refine ⟨k, ds[k].1, rfl, ?_⟩
  rw [e, ← show (ds[k].2 : Int) = f from h2]
theorem inF_of {ds : List (Nat × Int)} {f : Int} {k d : Nat} (h : ds[k]? = some (d, f)) : (k : Int) ∈ inF ds f ds.length := by
  refine List.mem_map.mpr ⟨k, List.mem_filter.mpr ⟨List.mem_range.mpr (List.getElem?_eq_some_iff.mp h).1, ?_⟩, rfl⟩
  rw [decide_eq_true_eq, List.getD_eq_getElem?_getD, h]
  rfl
def q_Lin_function (Z : Adr) (a b : V) (H : Hp) (Q : VK) (E : XK) : Prop := ∃ (ld : Addr) (us : List V) (ds : List (Nat × Int)) (f : Int), a = .ref ld ∧ b = .int f ∧ H ld = some (.lst us) ∧ DepsAt H ds us ∧ ds.length ≤ 300000 ∧ ∀ l H', Same H H' → H l = none → H' l = some (.lst ((inF ds f ds.length).map V.int)) → Q (.ref l) H'
def q_Lheads_of (Z : Adr) (a : V) (H : Hp) (Q : VK) (E : XK) : Prop := ∃ (ls : Addr) (xs : List Int) (hs : List (Int × Int)) (bs : List Nd), a = .ref ls ∧ H ls = some (.lst (xs.map V.int)) ∧ funsP xs = .ok (hs, bs) ∧ ∀ l vs H', Same H H' → H l = none → H' l = some (.lst vs) → PairsAt H' hs vs → Q (.ref l) H'
def q_Lput (Z : Adr) (a b c : V) (H : Hp) (Q : VK) (E : XK) : Prop := ∃ (ls ly : Addr) (v : V) (xs ys : List Int) (n : Nd) (p : Nat), a = .ref ls ∧ b = v ∧ c = .ref ly ∧ H ls = some (.lst (xs.map V.int)) ∧ H ly = some (.lst (ys.map V.int)) ∧ NodeAt H n v ∧ n.place = (p : Int) ∧ p + (enc n).length ≤ xs.length ∧ xs.length ≤ 300000 ∧ ys.length ≤ 300000 ∧
  ∀ l H', Same H H' → H l = none → H' l = some (.lst ((xs.take p ++ ys ++ xs.drop (p + (enc n).length)).map V.int)) → Q (.ref l) H'
/-- kinds and own numbers as they lie -/
def BareAt (H : Hp) : List Br → List V → Prop
  | [], vs => vs = []
  | b :: bs, vs => ∃ t tn us, vs = .ref t :: us ∧ H t = some (.tup [.int b.1, .ref tn]) ∧ H tn = some (.tup (b.2.map V.int)) ∧ BareAt H bs us
theorem BareAt.mono {H H' : Hp} (S : TupS H H') : ∀ {bs : List Br} {vs : List V}, BareAt H bs vs → BareAt H' bs vs
  | [], _, h => h
  | _ :: _, _, ⟨t, tn, us, e, h1, h2, h3⟩ => ⟨t, tn, us, e, S _ _ h1, S _ _ h2, h3.mono S⟩
theorem BareAt.len {H : Hp} : ∀ {bs : List Br} {vs : List V}, BareAt H bs vs → vs.length = bs.length
  | [], _, h => by rw [show _ = [] from h]; rfl
  | _ :: _, _, ⟨t, tn, us, e, _, _, h3⟩ => by rw [e, List.length_cons, List.length_cons, h3.len]
theorem BareAt.app {H : Hp} {b : Br} {t tn : Addr} (h1 : H t = some (.tup [.int b.1, .ref tn])) (h2 : H tn = some (.tup (b.2.map V.int))) : ∀ {bs : List Br} {vs : List V}, BareAt H bs vs → BareAt H (bs ++ [b]) (vs ++ [.ref t])
  | [], _, e => by rw [show _ = [] from e]; exact ⟨t, tn, [], rfl, h1, h2, rfl⟩
  | _ :: _, _, ⟨t', tn', us, e, g1, g2, g3⟩ => by rw [e]; exact ⟨t', tn', us ++ [.ref t], rfl, g1, g2, BareAt.app h1 h2 g3⟩
def brD (b : Br) : PyData := .tuple [.int b.1, .tuple (b.2.map PyData.int)]
theorem BareAt.dp {K : PySem.W.Frag} {H : Hp} : ∀ {bs : List Br} {vs : List V}, BareAt H bs vs → DpAll K H vs (bs.map brD)
  | [], _, h => by rw [show _ = [] from h]; exact .nil
  | b :: bs, _, ⟨t, tn, us, e, h1, h2, h3⟩ => by
    rw [e]
    exact .cons (.tup (SqT.of h1) (.cons (.int _) (.cons (.tup (SqT.of h2) (dp_ints _)) .nil))) h3.dp
theorem br_sh (bs : List Br) : Sh 3 (.list (bs.map brD)) := Sh.list fun d hd => by
  obtain ⟨b, _, rfl⟩ := List.mem_map.mp hd
  refine Sh.tup fun d hd => ?_
  rcases List.mem_cons.mp hd with e | e
  · rw [e]; exact Sh.int _
  · rw [List.mem_singleton.mp e]
    exact Sh.tup fun d hd => sh_ints _ d hd
def q_Lall_bare (Z : Adr) (a : V) (H : Hp) (Q : VK) (E : XK) : Prop := ∃ (l : Addr) (vs : List V) (ns : List Nd), a = .ref l ∧ H l = some (.lst vs) ∧ NodesAt H ns vs ∧ ns.length ≤ 300000 ∧ ∀ lb us H', Same H H' → H lb = none → H' lb = some (.lst us) → BareAt H' (ns.map bare) us → Q (.ref lb) H'
def q_Lsheet_with (Z : Adr) (a b c : V) (H : Hp) (Q : VK) (E : XK) : Prop := ∃ (p lh : Addr) (m : Int) (hs : List (Int × Int)) (vs : List V), a = .ref p ∧ b = .ref lh ∧ c = .int m ∧ 0 < m ∧ m ≤ 999 ∧ HeadsOK hs ∧ H lh = some (.lst vs) ∧ PairsAt H hs vs ∧ lh ≠ p ∧ St3 Z.K H p ∧ ∀ l xs bs H', H l = none → H' l = some (.lst (xs.map V.int)) → funsP xs = .ok (hs, bs) → xs.length ≤ 100000 → St3 Z.K H' p → But p H H' → Q (.ref l) H'
def q_Lexchanged (Z : Adr) (a b c d e : V) (H : Hp) (Q : VK) (E : XK) : Prop := ∃ (ls lm ly : Addr) (xs : List Int) (hs : List (Int × Int)) (bs : List Nd) (vs : List V) (i : Nat) (m : Nd) (l r : List Nd) (c' : List Fr) (hd : Int × Int) (t : Nd), a = .ref ls ∧ b = .ref lm ∧ c = .int (i : Int) ∧ d = .ref ly ∧ e = .int ((dpn t : Nat) : Int) ∧ H ls = some (.lst (xs.map V.int)) ∧ funsP xs = .ok (hs, bs) ∧ xs.length ≤ 100000 ∧
  H lm = some (.lst vs) ∧ NodesAt H (pres bs) vs ∧ (pres bs)[i]? = some m ∧ Wh xs hs bs i m l r c' hd ∧ H ly = some (.lst ((enc t).map V.int)) ∧ (enc t).length ≤ 100002 ∧ (∃ G, OkN hs hd.2 G t) ∧ ∀ H', Same H H' → Q (.bl true) H'
theorem cut_tk (xs : List V) (j : Nat) : cutV xs none (some (j : Int)) = xs.take j := by
  unfold cutV
  rw [HT.sIx_none, HT.sIx_nat, List.drop_zero, Nat.sub_zero]
  by_cases h : j ≤ xs.length
  · rw [Nat.min_eq_left h]
  · rw [Nat.min_eq_right (by omega), List.take_of_length_le (by omega), List.take_of_length_le (by omega)]
theorem cut_dr (xs : List V) (j : Nat) : cutV xs (some (j : Int)) none = xs.drop j := by
  unfold cutV
  rw [HT.sIx_none, HT.sIx_nat]
  by_cases h : j ≤ xs.length
  · rw [Nat.min_eq_left h, List.take_of_length_le (by rw [List.length_drop]; omega)]
  · rw [Nat.min_eq_right (by omega), List.drop_eq_nil_of_le (by omega), List.drop_eq_nil_of_le (by omega)]
    simp
theorem NodesAt.tk {H : Hp} : ∀ {ns : List Nd} {vs : List V} (i : Nat), NodesAt H ns vs → NodesAt H (ns.take i) (vs.take i)
  | ns, vs, 0, _ => by rw [List.take_zero, List.take_zero]; rfl
  | [], _, i + 1, h => by rw [show _ = [] from h]; rfl
  | n :: ns, _, i + 1, ⟨v, r, e, h1, h2⟩ => by rw [e, List.take_succ_cons, List.take_succ_cons]; exact ⟨v, r.take i, rfl, h1, h2.tk i⟩
theorem NodesAt.dr {H : Hp} : ∀ {ns : List Nd} {vs : List V} (i : Nat), NodesAt H ns vs → NodesAt H (ns.drop i) (vs.drop i)
  | ns, vs, 0, h => h
  | [], _, i + 1, h => by rw [show _ = [] from h]; rfl
  | n :: ns, _, i + 1, ⟨v, r, e, h1, h2⟩ => by rw [e, List.drop_succ_cons, List.drop_succ_cons]; exact h2.dr i
/-- how many numbers so many nodes have -/
def sumS (bs : List Br) (j : Nat) : Nat := ((bs.take j).flatMap encB).length
theorem sumS_lt {bs : List Br} {a b : Nat} (h : a < b) (hb : b ≤ bs.length) : sumS bs a < sumS bs b := by
  have grow : ∀ l : List Br, l.length ≤ (l.flatMap encB).length := fun l => by
    induction l with
    | nil => exact Nat.zero_le _
    | cons x l ih =>
      rw [List.flatMap_cons, List.length_append, List.length_cons]
      show _ ≤ (x.1 :: x.2).length + _
      rw [List.length_cons]
      omega
  unfold sumS
  have e : bs.take b = bs.take a ++ (bs.drop a).take (b - a) := by
    conv => lhs; rw [show b = a + (b - a) by omega, List.take_add]
  have g := grow ((bs.drop a).take (b - a))
  rw [List.length_take, List.length_drop] at g
  rw [e, List.flatMap_append, List.length_append]
  omega
theorem sumS_iff {bs : List Br} {a b : Nat} (ha : a ≤ bs.length) (hb : b ≤ bs.length) : (sumS bs a < sumS bs b ↔ a < b) := by
  constructor
  · intro h
    rcases Nat.lt_trichotomy a b with z | z | z
    · exact z
    · rw [z] at h; exact absurd h (Nat.lt_irrefl _)
    · have := sumS_lt z ha; omega
  · exact fun h => sumS_lt h hb
theorem sumS_le {bs : List Br} {a b : Nat} (ha : a ≤ bs.length) (hb : b ≤ bs.length) : (sumS bs a ≤ sumS bs b ↔ a ≤ b) := by
  have := sumS_iff hb ha
  omega
theorem dfs_has : ∀ (l : List Nd) (z : Int) (f : Nat), f < l.length → ∃ (k d : Nat), (dfs l z)[k]? = some (d, z + (f : Int))
  | n :: l, z, 0, _ => ⟨0, 1, by cases n; show some (1, z) = _; simp⟩
  | n :: l, z, f + 1, h => by
    obtain ⟨k, d, e⟩ := dfs_has l (z + 1) f (by simpa using h)
    refine ⟨(dps 1 n).length + k, d, ?_⟩
    show (((dps 1 n).map fun d => (d, z)) ++ dfs l (z + 1))[(dps 1 n).length + k]? = _
    rw [List.getElem?_append_right (by rw [List.length_map]; omega), List.length_map, Nat.add_sub_cancel_left, e]
    congr 2
    omega
def q_law (Z : Adr) (v : V) (H : Hp) (Q : VK) (E : XK) : Prop := ∃ (a : Addr) (ns : List Int), v = .ref a ∧ Only H ∧ Scr Z.K H a ns ∧ ns.length ≤ 63 ∧ ∀ H', Q (.bl true) H'

def sp_NoSheet_init (Z : Adr) : Sp := Sp3 (q_NoSheet_init Z)
theorem cl_NoSheet_init {Z : Adr} {a0 a1 a2 : V} {H : Hp} {Q : VK} {E : XK} (h : q_NoSheet_init Z a0 a1 a2 H Q E) : sp_NoSheet_init Z [a0, a1, a2] H Q E := ⟨a0, a1, a2, rfl, h⟩
def sp_parts_of (Z : Adr) : Sp := Sp1 (q_parts_of Z)
theorem cl_parts_of {Z : Adr} {a0 : V} {H : Hp} {Q : VK} {E : XK} (h : q_parts_of Z a0 H Q E) : sp_parts_of Z [a0] H Q E := ⟨a0, rfl, h⟩
def sp_Look_init (Z : Adr) : Sp := Sp2 (q_Look_init Z)
theorem cl_Look_init {Z : Adr} {a0 a1 : V} {H : Hp} {Q : VK} {E : XK} (h : q_Look_init Z a0 a1 H Q E) : sp_Look_init Z [a0, a1] H Q E := ⟨a0, a1, rfl, h⟩
def sp_Look_due (Z : Adr) : Sp := Sp1 (q_Look_due Z)
theorem cl_Look_due {Z : Adr} {a0 : V} {H : Hp} {Q : VK} {E : XK} (h : q_Look_due Z a0 H Q E) : sp_Look_due Z [a0] H Q E := ⟨a0, rfl, h⟩
def sp_Look_within (Z : Adr) : Sp := Sp3 (q_Look_within Z)
theorem cl_Look_within {Z : Adr} {a0 a1 a2 : V} {H : Hp} {Q : VK} {E : XK} (h : q_Look_within Z a0 a1 a2 H Q E) : sp_Look_within Z [a0, a1, a2] H Q E := ⟨a0, a1, a2, rfl, h⟩
def sp_heads_in (Z : Adr) : Sp := Sp1 (q_heads_in Z)
theorem cl_heads_in {Z : Adr} {a0 : V} {H : Hp} {Q : VK} {E : XK} (h : q_heads_in Z a0 H Q E) : sp_heads_in Z [a0] H Q E := ⟨a0, rfl, h⟩
def sp_own_numbers (Z : Adr) : Sp := Sp4 (q_own_numbers Z)
theorem cl_own_numbers {Z : Adr} {a0 a1 a2 a3 : V} {H : Hp} {Q : VK} {E : XK} (h : q_own_numbers Z a0 a1 a2 a3 H Q E) : sp_own_numbers Z [a0, a1, a2, a3] H Q E := ⟨a0, a1, a2, a3, rfl, h⟩
def sp_node_in (Z : Adr) (n : Nat) : Sp := Sp4 (q_node_in Z n)
theorem cl_node_in {Z : Adr} {n : Nat} {a0 a1 a2 a3 : V} {H : Hp} {Q : VK} {E : XK} (h : q_node_in Z n a0 a1 a2 a3 H Q E) : sp_node_in Z n [a0, a1, a2, a3] H Q E := ⟨a0, a1, a2, a3, rfl, h⟩
def sp_functions (Z : Adr) : Sp := Sp1 (q_functions Z)
theorem cl_functions {Z : Adr} {a0 : V} {H : Hp} {Q : VK} {E : XK} (h : q_functions Z a0 H Q E) : sp_functions Z [a0] H Q E := ⟨a0, rfl, h⟩
def sp_wrong (Z : Adr) : Sp := Sp1 (q_wrong Z)
theorem cl_wrong {Z : Adr} {a0 : V} {H : Hp} {Q : VK} {E : XK} (h : q_wrong Z a0 H Q E) : sp_wrong Z [a0] H Q E := ⟨a0, rfl, h⟩
def sp_nodes_in (Z : Adr) (n : Nat) : Sp := Sp1 (q_nodes_in Z n)
theorem cl_nodes_in {Z : Adr} {n : Nat} {a0 : V} {H : Hp} {Q : VK} {E : XK} (h : q_nodes_in Z n a0 H Q E) : sp_nodes_in Z n [a0] H Q E := ⟨a0, rfl, h⟩
def sp_nodes (Z : Adr) : Sp := Sp1 (q_nodes Z)
theorem cl_nodes {Z : Adr} {a0 : V} {H : Hp} {Q : VK} {E : XK} (h : q_nodes Z a0 H Q E) : sp_nodes Z [a0] H Q E := ⟨a0, rfl, h⟩
def sp_Lmixed (Z : Adr) : Sp := Sp2 (q_Lmixed Z)
theorem cl_Lmixed {Z : Adr} {a0 a1 : V} {H : Hp} {Q : VK} {E : XK} (h : q_Lmixed Z a0 a1 H Q E) : sp_Lmixed Z [a0, a1] H Q E := ⟨a0, a1, rfl, h⟩
def sp_Ltake (Z : Adr) : Sp := Sp2 (q_Ltake Z)
theorem cl_Ltake {Z : Adr} {a0 a1 : V} {H : Hp} {Q : VK} {E : XK} (h : q_Ltake Z a0 a1 H Q E) : sp_Ltake Z [a0, a1] H Q E := ⟨a0, a1, rfl, h⟩
def sp_Lheads (Z : Adr) : Sp := Sp1 (q_Lheads Z)
theorem cl_Lheads {Z : Adr} {a0 : V} {H : Hp} {Q : VK} {E : XK} (h : q_Lheads Z a0 H Q E) : sp_Lheads Z [a0] H Q E := ⟨a0, rfl, h⟩
def sp_Lnumber (Z : Adr) : Sp := Sp1 (q_Lnumber Z)
theorem cl_Lnumber {Z : Adr} {a0 : V} {H : Hp} {Q : VK} {E : XK} (h : q_Lnumber Z a0 H Q E) : sp_Lnumber Z [a0] H Q E := ⟨a0, rfl, h⟩
def sp_Lleaf (Z : Adr) : Sp := Sp2 (q_Lleaf Z)
theorem cl_Lleaf {Z : Adr} {a0 a1 : V} {H : Hp} {Q : VK} {E : XK} (h : q_Lleaf Z a0 a1 H Q E) : sp_Lleaf Z [a0, a1] H Q E := ⟨a0, a1, rfl, h⟩
def sp_Lhead (Z : Adr) : Sp := Sp3 (q_Lhead Z)
theorem cl_Lhead {Z : Adr} {a0 a1 a2 : V} {H : Hp} {Q : VK} {E : XK} (h : q_Lhead Z a0 a1 a2 H Q E) : sp_Lhead Z [a0, a1, a2] H Q E := ⟨a0, a1, a2, rfl, h⟩
def sp_Lnode (Z : Adr) (n : Nat) : Sp := Sp5 (q_Lnode Z n)
theorem cl_Lnode {Z : Adr} {n : Nat} {a0 a1 a2 a3 a4 : V} {H : Hp} {Q : VK} {E : XK} (h : q_Lnode Z n a0 a1 a2 a3 a4 H Q E) : sp_Lnode Z n [a0, a1, a2, a3, a4] H Q E := ⟨a0, a1, a2, a3, a4, rfl, h⟩
def sp_Lsheet (Z : Adr) : Sp := Sp2 (q_Lsheet Z)
theorem cl_Lsheet {Z : Adr} {a0 a1 : V} {H : Hp} {Q : VK} {E : XK} (h : q_Lsheet Z a0 a1 H Q E) : sp_Lsheet Z [a0, a1] H Q E := ⟨a0, a1, rfl, h⟩
def sp_Lsheet_with (Z : Adr) : Sp := Sp3 (q_Lsheet_with Z)
theorem cl_Lsheet_with {Z : Adr} {a0 a1 a2 : V} {H : Hp} {Q : VK} {E : XK} (h : q_Lsheet_with Z a0 a1 a2 H Q E) : sp_Lsheet_with Z [a0, a1, a2] H Q E := ⟨a0, a1, a2, rfl, h⟩
def sp_Lmany (Z : Adr) : Sp := Sp1 (q_Lmany Z)
theorem cl_Lmany {Z : Adr} {a0 : V} {H : Hp} {Q : VK} {E : XK} (h : q_Lmany Z a0 H Q E) : sp_Lmany Z [a0] H Q E := ⟨a0, rfl, h⟩
def sp_Ldepth (Z : Adr) : Sp := Sp1 (q_Ldepth Z)
theorem cl_Ldepth {Z : Adr} {a0 : V} {H : Hp} {Q : VK} {E : XK} (h : q_Ldepth Z a0 H Q E) : sp_Ldepth Z [a0] H Q E := ⟨a0, rfl, h⟩
def sp_Ldepths (Z : Adr) : Sp := Sp1 (q_Ldepths Z)
theorem cl_Ldepths {Z : Adr} {a0 : V} {H : Hp} {Q : VK} {E : XK} (h : q_Ldepths Z a0 H Q E) : sp_Ldepths Z [a0] H Q E := ⟨a0, rfl, h⟩
def sp_Lin_function (Z : Adr) : Sp := Sp2 (q_Lin_function Z)
theorem cl_Lin_function {Z : Adr} {a0 a1 : V} {H : Hp} {Q : VK} {E : XK} (h : q_Lin_function Z a0 a1 H Q E) : sp_Lin_function Z [a0, a1] H Q E := ⟨a0, a1, rfl, h⟩
def sp_Lheads_of (Z : Adr) : Sp := Sp1 (q_Lheads_of Z)
theorem cl_Lheads_of {Z : Adr} {a0 : V} {H : Hp} {Q : VK} {E : XK} (h : q_Lheads_of Z a0 H Q E) : sp_Lheads_of Z [a0] H Q E := ⟨a0, rfl, h⟩
def sp_Lput (Z : Adr) : Sp := Sp3 (q_Lput Z)
theorem cl_Lput {Z : Adr} {a0 a1 a2 : V} {H : Hp} {Q : VK} {E : XK} (h : q_Lput Z a0 a1 a2 H Q E) : sp_Lput Z [a0, a1, a2] H Q E := ⟨a0, a1, a2, rfl, h⟩
def sp_Lall_bare (Z : Adr) : Sp := Sp1 (q_Lall_bare Z)
theorem cl_Lall_bare {Z : Adr} {a0 : V} {H : Hp} {Q : VK} {E : XK} (h : q_Lall_bare Z a0 H Q E) : sp_Lall_bare Z [a0] H Q E := ⟨a0, rfl, h⟩
def sp_Lexchanged (Z : Adr) : Sp := Sp5 (q_Lexchanged Z)
theorem cl_Lexchanged {Z : Adr} {a0 a1 a2 a3 a4 : V} {H : Hp} {Q : VK} {E : XK} (h : q_Lexchanged Z a0 a1 a2 a3 a4 H Q E) : sp_Lexchanged Z [a0, a1, a2, a3, a4] H Q E := ⟨a0, a1, a2, a3, a4, rfl, h⟩
def sp_law (Z : Adr) : Sp := Sp1 (q_law Z)
theorem cl_law {Z : Adr} {a0 : V} {H : Hp} {Q : VK} {E : XK} (h : q_law Z a0 H Q E) : sp_law Z [a0] H Q E := ⟨a0, rfl, h⟩
def t_NoSheet_init (Z : Adr) (W : WX) : TS := (tSeq (tDrop (tVeI Z.K (tCons (tVar 0) (tCons (tC (.str "no sheet")) tNil))))
    (tSeq (tOst Z.K "place" (tVar 0) (tVar 1))
    (tOst Z.K "word" (tVar 0) (tVar 2))))
def t_parts_of (Z : Adr) (W : WX) : TS := (tSeq (tIfS (tTest (tOp (rEqU Z.K) (tVar 0) (tC (.int 19)))) (tRet (tC (.int 0))) tNext)
    (tSeq (tIfS (tTest (tOp (rIn Z.K false) (tVar 0) (tTup (tCons (tC (.int 7)) (tCons (tC (.int 18)) tNil))))) (tRet (tC (.int 1))) tNext)
    (tSeq (tIfS (tTest (tOp (rEqU Z.K) (tVar 0) (tC (.int 17)))) (tRet (tC (.int 3))) tNext)
    (tRet (tC (.int 2))))))
def t_Look_init (Z : Adr) (W : WX) : TS := (tSeq (sFld Z.K (tVar 0) (tCB (rListOf Z.K) (tCons (tVar 1) tNil)) "numbers")
    (sFld Z.K (tVar 0) (tC (.int 0)) "place"))
def t_Look_due (Z : Adr) (W : WX) : TS := (tSeq (tIfS (tTest (tOp (rEqU Z.K) (tFld Z.K (tVar 0) "place") (tCB (rLen Z.K) (tCons (tFld Z.K (tVar 0) "numbers") tNil)))) (sRaiseO Z.c_NoSheet (sp_NoSheet_init Z) W (tCons (tFld Z.K (tVar 0) "place") (tCons (tC (.str "end")) tNil))) tNext)
    (tSeq (sFld Z.K (tVar 0) (tOp (rAddU Z.K) (tFld Z.K (tVar 0) "place") (tC (.int 1))) "place")
    (tRet (tOp (rIx Z.K) (tFld Z.K (tVar 0) "numbers") (tOp (rI0 fun i j => .int (i - j)) (tFld Z.K (tVar 0) "place") (tC (.int 1)))))))
def t_Look_within (Z : Adr) (W : WX) : TS := (tSeq (tAsg (tMethZ Z.c_Look "due" (sp_Look_due Z) (WE W) (tVar 0) tNil) (gName 3))
    (tSeq (tIfS (tNot (tTest (tChain (rI0 fun i j => .bl (decide (i ≤ j))) (rI0 fun i j => .bl (decide (i ≤ j))) (tVar 1) (tVar 3) (tVar 2)))) (sRaiseO Z.c_NoSheet (sp_NoSheet_init Z) W (tCons (tOp (rI0 fun i j => .int (i - j)) (tFld Z.K (tVar 0) "place") (tC (.int 1))) (tCons (tC (.str "range")) tNil))) tNext)
    (tRet (tVar 3))))
def t_heads_in (Z : Adr) (W : WX) : TS := (tSeq (tAsg (tLst tNil) (gName 1))
    (tSeq (tFor (iRng1 (tCons (tMethZ Z.c_Look "within" (sp_Look_within Z) (WE W) (tVar 0) (tCons (tC (.int 1)) (tCons (tC (.int 16)) tNil))) tNil)) (gName 2) (tSeq (tAsg (tMethZ Z.c_Look "within" (sp_Look_within Z) (WE W) (tVar 0) (tCons (tC (.int 0)) (tCons (tOp rMul (tC (.int 4)) (tCB rInt1 (tCons (tOp (rI0 fun i j => .bl (decide (j < i))) (tVar 2) (tC (.int 0))) tNil))) tNil))) (gName 3))
    (tDrop (tBM Z.K "list" rAppend (tVar 1) (tCons (tTup (tCons (tVar 3) (tCons (tMethZ Z.c_Look "within" (sp_Look_within Z) (WE W) (tVar 0) (tCons (tVar 3) (tCons (tC (.int 12)) tNil))) tNil))) tNil)))))
    (tRet (tVar 1))))
def t_own_numbers (Z : Adr) (W : WX) : TS := (tSeq (tIfS (tTest (tOp (rEqU Z.K) (tVar 3) (tC (.int 0)))) (tRet (tTup (tCons (tTup (tCons (tMethZ Z.c_Look "due" (sp_Look_due Z) (WE W) (tVar 0) tNil) tNil)) (tCons (tC (.int 0)) tNil)))) tNext)
    (tSeq (tIfS (tTest (tOp (rEqU Z.K) (tVar 3) (tC (.int 1)))) (tRet (tTup (tCons (tTup (tCons (tMethZ Z.c_Look "within" (sp_Look_within Z) (WE W) (tVar 0) (tCons (tC (.int 0)) (tCons (tOp (rI0 fun i j => .int (i - j)) (tVar 2) (tC (.int 1))) tNil))) tNil)) (tCons (tC (.int 0)) tNil)))) tNext)
    (tSeq (tIfS (tTest (tOp (rEqU Z.K) (tVar 3) (tC (.int 2)))) (tRet (tTup (tCons (tTup (tCons (tMethZ Z.c_Look "within" (sp_Look_within Z) (WE W) (tVar 0) (tCons (tC (.int 0)) (tCons (tOp (rI0 fun i j => .int (i - j)) (tVar 2) (tC (.int 1))) tNil))) tNil)) (tCons (tC (.int 1)) tNil)))) tNext)
    (tSeq (tIfS (tTest (tOp (rEqU Z.K) (tVar 3) (tC (.int 3)))) (tSeq (tAsg (tMethZ Z.c_Look "within" (sp_Look_within Z) (WE W) (tVar 0) (tCons (tC (.int 1)) (tCons (tC (.int 12)) tNil))) (gName 4))
    (tRet (tTup (tCons (tTup (tCons (tVar 4) tNil)) (tCons (tVar 4) tNil))))) tNext)
    (tSeq (tIfS (tTest (tOp (rEqU Z.K) (tVar 3) (tC (.int 4)))) (tSeq (tAsg (tMethZ Z.c_Look "within" (sp_Look_within Z) (WE W) (tVar 0) (tCons (tC (.int 2)) (tCons (tC (.int 12)) tNil))) (gName 4))
    (tRet (tTup (tCons (tTup (tCons (tVar 4) tNil)) (tCons (tOp (rAddU Z.K) (tVar 4) (tC (.int 1))) tNil))))) tNext)
    (tSeq (tIfS (tTest (tOp (rEqU Z.K) (tVar 3) (tC (.int 6)))) (tSeq (tAsg (tMethZ Z.c_Look "within" (sp_Look_within Z) (WE W) (tVar 0) (tCons (tC (.int 0)) (tCons (tOp (rI0 fun i j => .int (i - j)) (tCB (rLen Z.K) (tCons (tVar 1) tNil)) (tC (.int 1))) tNil))) (gName 5))
    (tRet (tTup (tCons (tTup (tCons (tVar 5) tNil)) (tCons (tOp (rIx Z.K) (tOp (rIx Z.K) (tVar 1) (tVar 5)) (tC (.int 0))) tNil))))) tNext)
    (tSeq (tIfS (tTest (tOp (rEqU Z.K) (tVar 3) (tC (.int 5)))) (tRet (tTup (tCons (tTup tNil) (tCons (tC (.int 2)) tNil)))) tNext)
    (tRet (tTup (tCons (tTup tNil) (tCons (tCallS (sp_parts_of Z) (WE W) (tCons (tVar 3) tNil)) tNil)))))))))))
def t_node_in (Z : Adr) (n : Nat) (W : WX) : TS := (tSeq (tIfS (tTest (tOp (rI0 fun i j => .bl (decide (j < i))) (tVar 3) (tC (.int 10)))) (sRaiseO Z.c_NoSheet (sp_NoSheet_init Z) W (tCons (tFld Z.K (tVar 0) "place") (tCons (tC (.str "deep")) tNil))) tNext)
    (tSeq (tAsg (tFld Z.K (tVar 0) "place") (gName 4))
    (tSeq (tAsg (tMethZ Z.c_Look "within" (sp_Look_within Z) (WE W) (tVar 0) (tCons (tC (.int 0)) (tCons (tC (.int 19)) tNil))) (gName 5))
    (tSeq (tAsg (tCallS (sp_own_numbers Z) (WE W) (tCons (tVar 0) (tCons (tVar 1) (tCons (tVar 2) (tCons (tVar 5) tNil))))) (gUn Z.K 2 (gCons (gName 6) (gCons (gName 7) gNil))))
    (tSeq (tAsg (tLst tNil) (gName 8))
    (tSeq (tFor (iRng1 (tCons (tVar 7) tNil)) (gName 9) (tDrop (tBM Z.K "list" rAppend (tVar 8) (tCons (tCallS (sp_node_in Z n) (WE W) (tCons (tVar 0) (tCons (tVar 1) (tCons (tVar 2) (tCons (tOp (rAddU Z.K) (tVar 3) (tC (.int 1))) tNil))))) tNil))))
    (tRet (tTup (tCons (tVar 5) (tCons (tVar 4) (tCons (tVar 6) (tCons (tCB (rTupOf Z.K) (tCons (tVar 8) tNil)) tNil))))))))))))
def t_functions (Z : Adr) (W : WX) : TS := (tSeq (tAsg (tMakeZ Z.c_Look (sp_Look_init Z) (WE W) (tCons (tVar 0) tNil)) (gName 1))
    (tSeq (tAsg (tCallS (sp_heads_in Z) (WE W) (tCons (tVar 1) tNil)) (gName 2))
    (tSeq (tAsg (tLst tNil) (gName 3))
    (tSeq (tFor (iList Z.K (tVar 2)) (gUn Z.K 2 (gCons (gName 4) (gCons (gName 5) gNil))) (tDrop (tBM Z.K "list" rAppend (tVar 3) (tCons (tTup (tCons (tVar 4) (tCons (tVar 5) (tCons (tCallS (sp_node_in Z 12) (WE W) (tCons (tVar 1) (tCons (tVar 2) (tCons (tVar 5) (tCons (tC (.int 1)) tNil))))) tNil)))) tNil))))
    (tSeq (tIfS (tTest (tOp (rI0 fun i j => .bl (decide (i < j))) (tFld Z.K (tVar 1) "place") (tCB (rLen Z.K) (tCons (tFld Z.K (tVar 1) "numbers") tNil)))) (sRaiseO Z.c_NoSheet (sp_NoSheet_init Z) W (tCons (tFld Z.K (tVar 1) "place") (tCons (tC (.str "over")) tNil))) tNext)
    (tRet (tVar 3)))))))
def t_wrong (Z : Adr) (W : WX) : TS := (tSeq (tAsg (tC .non) (gName 1))
    (tSeq (sTryAs Z.K (.ref Z.c_NoSheet) 2 (fun W => (tDrop (tCallS (sp_functions Z) (WE W) (tCons (tVar 0) tNil)))) (fun a cls d => (tAsg (tTup (tCons (tXf a cls d Z.c_NoSheet "place" (tVar 2)) (tCons (tXf a cls d Z.c_NoSheet "word" (tVar 2)) tNil))) (gName 1))) W)
    (tRet (tVar 1))))
def t_nodes_in (Z : Adr) (n : Nat) (W : WX) : TS := (tSeq (tAsg (tLst (tCons (tVar 0) tNil)) (gName 1))
    (tSeq (tFor (iTup Z.K (tOp (rIx Z.K) (tVar 0) (tC (.int 3)))) (gName 2) (tDrop (tBM Z.K "list" rExtend (tVar 1) (tCons (tCallS (sp_nodes_in Z n) (WE W) (tCons (tVar 2) tNil)) tNil))))
    (tRet (tVar 1))))
def t_nodes (Z : Adr) (W : WX) : TS := (tSeq (tAsg (tLst tNil) (gName 1))
    (tSeq (tFor (iList Z.K (tCallS (sp_functions Z) (WE W) (tCons (tVar 0) tNil))) (gUn Z.K 3 (gCons (gName 2) (gCons (gName 3) (gCons (gName 4) gNil)))) (tDrop (tBM Z.K "list" rExtend (tVar 1) (tCons (tCallS (sp_nodes_in Z 12) (WE W) (tCons (tVar 4) tNil)) tNil))))
    (tRet (tVar 1))))
def t_Lmixed (Z : Adr) (W : WX) : TS := (tSeq (tAsg (tOp rMod (tOp rMul (tOp (rAddU Z.K) (tOp (rAddU Z.K) (tOp rMod (tVar 0) (tC (.int 2147483587))) (tOp rMul (tC (.int 30011)) (tVar 1))) (tC (.int 4711))) (tC (.int 39373))) (tC (.int 2147483647))) (gName 2))
    (tSeq (tAsg (tOp rMod (tOp (rAddU Z.K) (tOp (rAddU Z.K) (tOp rMul (tVar 2) (tVar 2)) (tOp rMul (tC (.int 40014)) (tVar 2))) (tOp rMul (tC (.int 7)) (tVar 1))) (tC (.int 2147483563))) (gName 3))
    (tRet (tOp rFdv (tOp rMod (tOp rMul (tVar 3) (tOp (rAddU Z.K) (tVar 3) (tC (.int 16807)))) (tC (.int 1073741783))) (tC (.int 5))))))
def t_Ltake (Z : Adr) (W : WX) : TS := (C8.tCut (tIfS (tTest (tOp (rEqU Z.K) (tOp (rIx Z.K) (tVar 0) (tC (.int 2))) (tC (.int 0)))) (tSeq (tAsg (tOp (rIx Z.K) (tVar 0) (tC (.int 0))) (gName 2))
    (tSeq (tAsg (tOp (rIx Z.K) (tVar 0) (tC (.int 1))) (gName 3))
    (tSeq (tAsg (tOp (rAddU Z.K) (tVar 3) (tC (.int 1))) (gSub (tVar 0) (tC (.int 1)) rSetL))
    (tSeq (tAsg (tC (.int 0)) (gName 4))
    (C8.tCut (tIfS (tTest (tOp (rI0 fun i j => .bl (decide (i < j))) (tVar 3) (tCB (rLen Z.K) (tCons (tVar 2) tNil)))) (tAsg (tOp (rIx Z.K) (tVar 2) (tVar 3)) (gName 4)) (tIfS (tTest (tOp (rI0 fun i j => .bl (decide (j < i))) (tCB (rLen Z.K) (tCons (tVar 2) tNil)) (tC (.int 0)))) (tAsg (tOp rMod (tOp (rIx Z.K) (tVar 2) (tOp rMod (tVar 3) (tCB (rLen Z.K) (tCons (tVar 2) tNil)))) (tC (.int 100000000000000000))) (gName 4)) tNext))
    (tSeq (tIfS (tTest (tOp (rI0 fun i j => .bl (decide (i < j))) (tCB rAbs (tCons (tVar 4) tNil)) (tC (.int 1000000000000000000)))) (tRet (tOp rMod (tCallS (sp_Lmixed Z) (WE W) (tCons (tVar 4) (tCons (tVar 3) tNil))) (tVar 1))) tNext)
    (tAsg (tCB rAbs (tCons (tVar 4) tNil)) (gSub (tVar 0) (tC (.int 2)) rSetL)))))))) tNext)
    (tSeq (tAsg (tOp rMod (tOp (rIx Z.K) (tVar 0) (tC (.int 2))) (tVar 1)) (gName 5))
    (tSeq (tAsg (tOp rFdv (tOp (rIx Z.K) (tVar 0) (tC (.int 2))) (tVar 1)) (gSub (tVar 0) (tC (.int 2)) rSetL))
    (tRet (tVar 5)))))
def t_Lheads (Z : Adr) (W : WX) : TS := (tSeq (tAsg (tOp (rAddU Z.K) (tC (.int 1)) (tCallS (sp_Ltake Z) (WE W) (tCons (tVar 0) (tCons (tC (.int 4)) tNil)))) (gName 1))
    (C8.tCut (tIfS (tTest (tOp (rEqU Z.K) (tCallS (sp_Ltake Z) (WE W) (tCons (tVar 0) (tCons (tC (.int 8)) tNil))) (tC (.int 5)))) (tAsg (tOp (rAddU Z.K) (tC (.int 1)) (tCallS (sp_Ltake Z) (WE W) (tCons (tVar 0) (tCons (tC (.int 16)) tNil)))) (gName 1)) tNext)
    (tSeq (tAsg (tLst tNil) (gName 2))
    (tSeq (tFor (iRng1 (tCons (tVar 1) tNil)) (gName 3) (tSeq (tAsg (tOp rMul (tCallS (sp_Ltake Z) (WE W) (tCons (tVar 0) (tCons (tC (.int 5)) tNil))) (tCB rInt1 (tCons (tOp (rI0 fun i j => .bl (decide (j < i))) (tVar 3) (tC (.int 0))) tNil))) (gName 4))
    (tDrop (tBM Z.K "list" rAppend (tVar 2) (tCons (tTup (tCons (tVar 4) (tCons (tOp (rAddU Z.K) (tVar 4) (tCallS (sp_Ltake Z) (WE W) (tCons (tVar 0) (tCons (tOp (rIx Z.K) (tLst (tCons (tOp (rI0 fun i j => .int (i - j)) (tC (.int 13)) (tVar 4)) (tCons (tC (.int 4)) tNil))) (tCallS (sp_Ltake Z) (WE W) (tCons (tVar 0) (tCons (tC (.int 2)) tNil)))) tNil)))) tNil))) tNil)))))
    (tRet (tVar 2))))))
def t_Lnumber (Z : Adr) (W : WX) : TS := (tSeq (tAsg (tCallS (sp_Ltake Z) (WE W) (tCons (tVar 0) (tCons (tC (.int 6)) tNil))) (gName 1))
    (tSeq (tIfS (tTest (tOp (rI0 fun i j => .bl (decide (i < j))) (tVar 1) (tC (.int 4)))) (tRet (tOp (rI0 fun i j => .int (i - j)) (tCallS (sp_Ltake Z) (WE W) (tCons (tVar 0) (tCons (tC (.int 9)) tNil))) (tC (.int 3)))) tNext)
    (tSeq (tIfS (tTest (tOp (rEqU Z.K) (tVar 1) (tC (.int 4)))) (tRet (tOp (rI0 fun i j => .int (i - j)) (tCallS (sp_Ltake Z) (WE W) (tCons (tVar 0) (tCons (tC (.int 400)) tNil))) (tC (.int 200)))) tNext)
    (tRet (tOp (rAddU Z.K) (tOp (rI0 fun i j => .int (i - j)) (tCallS (sp_Ltake Z) (WE W) (tCons (tVar 0) (tCons (tOp (rI0 fun i j => .int (i - j)) (tOp rMul (tC (.int 2)) (tC (.int 1000000000000000000000000000000000000000000000000000000000000))) (tC (.int 1))) tNil))) (tC (.int 1000000000000000000000000000000000000000000000000000000000000))) (tC (.int 1)))))))
def t_Lleaf (Z : Adr) (W : WX) : TS := (tSeq (tAsg (tCallS (sp_Ltake Z) (WE W) (tCons (tVar 0) (tCons (tC (.int 5)) tNil))) (gName 2))
    (tSeq (tIfS (tAnd (tTest (tOp (rI0 fun i j => .bl (decide (i < j))) (tVar 2) (tC (.int 2)))) (tTest (tOp (rI0 fun i j => .bl (decide (j < i))) (tVar 1) (tC (.int 0))))) (tRet (tLst (tCons (tC (.int 1)) (tCons (tCallS (sp_Ltake Z) (WE W) (tCons (tVar 0) (tCons (tVar 1) tNil))) tNil)))) tNext)
    (tSeq (tIfS (tTest (tOp (rEqU Z.K) (tVar 2) (tC (.int 2)))) (tRet (tLst (tCons (tC (.int 19)) tNil))) tNext)
    (tRet (tLst (tCons (tC (.int 0)) (tCons (tCallS (sp_Lnumber Z) (WE W) (tCons (tVar 0) tNil)) tNil)))))))
def t_Lhead (Z : Adr) (W : WX) : TS := (tSeq (tAsg (tCallS (sp_Ltake Z) (WE W) (tCons (tVar 0) (tCons (tC (.int 20)) tNil))) (gName 3))
    (tSeq (tIfS (tAnd (tTest (tOp (rEqU Z.K) (tVar 3) (tC (.int 2)))) (tTest (tOp (rI0 fun i j => .bl (decide (j < i))) (tVar 2) (tC (.int 0))))) (tRet (tTup (tCons (tLst (tCons (tC (.int 2)) (tCons (tCallS (sp_Ltake Z) (WE W) (tCons (tVar 0) (tCons (tVar 2) tNil))) tNil))) (tCons (tC (.int 1)) tNil)))) tNext)
    (tSeq (tIfS (tTest (tOp (rEqU Z.K) (tVar 3) (tC (.int 3)))) (tSeq (tAsg (tOp (rAddU Z.K) (tC (.int 1)) (tCallS (sp_Ltake Z) (WE W) (tCons (tVar 0) (tCons (tOp (rIx Z.K) (tLst (tCons (tC (.int 4)) (tCons (tC (.int 4)) (tCons (tC (.int 4)) (tCons (tC (.int 12)) tNil))))) (tCallS (sp_Ltake Z) (WE W) (tCons (tVar 0) (tCons (tC (.int 4)) tNil)))) tNil)))) (gName 4))
    (tRet (tTup (tCons (tLst (tCons (tC (.int 3)) (tCons (tVar 4) tNil))) (tCons (tVar 4) tNil))))) tNext)
    (tSeq (tIfS (tTest (tOp (rEqU Z.K) (tVar 3) (tC (.int 4)))) (tSeq (tAsg (tOp (rAddU Z.K) (tC (.int 2)) (tCallS (sp_Ltake Z) (WE W) (tCons (tVar 0) (tCons (tOp (rIx Z.K) (tLst (tCons (tC (.int 3)) (tCons (tC (.int 3)) (tCons (tC (.int 3)) (tCons (tC (.int 11)) tNil))))) (tCallS (sp_Ltake Z) (WE W) (tCons (tVar 0) (tCons (tC (.int 4)) tNil)))) tNil)))) (gName 4))
    (tRet (tTup (tCons (tLst (tCons (tC (.int 4)) (tCons (tVar 4) tNil))) (tCons (tOp (rAddU Z.K) (tVar 4) (tC (.int 1))) tNil))))) tNext)
    (tSeq (tIfS (tTest (tOp (rEqU Z.K) (tVar 3) (tC (.int 6)))) (tSeq (tAsg (tCallS (sp_Ltake Z) (WE W) (tCons (tVar 0) (tCons (tCB (rLen Z.K) (tCons (tVar 1) tNil)) tNil))) (gName 5))
    (tRet (tTup (tCons (tLst (tCons (tC (.int 6)) (tCons (tVar 5) tNil))) (tCons (tOp (rIx Z.K) (tOp (rIx Z.K) (tVar 1) (tVar 5)) (tC (.int 0))) tNil))))) tNext)
    (tRet (tTup (tCons (tLst (tCons (tVar 3) tNil)) (tCons (tOp (rIx Z.K) (tLst (tCons (tC (.int 0)) (tCons (tC (.int 0)) (tCons (tC (.int 0)) (tCons (tC (.int 0)) (tCons (tC (.int 0)) (tCons (tC (.int 2)) (tCons (tC (.int 0)) (tCons (tC (.int 1)) (tCons (tC (.int 2)) (tCons (tC (.int 2)) (tCons (tC (.int 2)) (tCons (tC (.int 2)) (tCons (tC (.int 2)) (tCons (tC (.int 2)) (tCons (tC (.int 2)) (tCons (tC (.int 2)) (tCons (tC (.int 2)) (tCons (tC (.int 3)) (tCons (tC (.int 1)) (tCons (tC (.int 0)) tNil))))))))))))))))))))) (tVar 3)) tNil)))))))))
def t_Lnode (Z : Adr) (n : Nat) (W : WX) : TS := (tSeq (tAsg (tCallS (sp_Lhead Z) (WE W) (tCons (tVar 0) (tCons (tVar 1) (tCons (tVar 2) tNil)))) (gUn Z.K 2 (gCons (gName 5) (gCons (gName 6) gNil))))
    (tSeq (tIfS (tOr (tAnd (tTest (tOp (rI0 fun i j => .bl (decide (i < j))) (tOp (rIx Z.K) (tVar 5) (tC (.int 0))) (tC (.int 3)))) (tTest (tOp (rI0 fun i j => .bl (decide (i < j))) (tCB (rLen Z.K) (tCons (tVar 5) tNil)) (tC (.int 2))))) (tOr (tTest (tOp (rI0 fun i j => .bl (decide (j < i))) (tVar 6) (tOp (rIx Z.K) (tVar 4) (tC (.int 0))))) (tAnd (tTest (tOp (rI0 fun i j => .bl (decide (j < i))) (tVar 6) (tC (.int 0)))) (tTest (tOp (rI0 fun i j => .bl (decide (j < i))) (tVar 3) (tC (.int 9))))))) (tRet (tCallS (sp_Lleaf Z) (WE W) (tCons (tVar 0) (tCons (tVar 2) tNil)))) tNext)
    (tSeq (tAsg (tOp (rI0 fun i j => .int (i - j)) (tOp (rIx Z.K) (tVar 4) (tC (.int 0))) (tVar 6)) (gSub (tVar 4) (tC (.int 0)) rSetL))
    (tSeq (tFor (iRng1 (tCons (tVar 6) tNil)) (gName 7) (tAsg (tOp (rAddU Z.K) (tVar 5) (tCallS (sp_Lnode Z n) (WE W) (tCons (tVar 0) (tCons (tVar 1) (tCons (tVar 2) (tCons (tOp (rAddU Z.K) (tVar 3) (tC (.int 1))) (tCons (tVar 4) tNil))))))) (gName 5)))
    (tRet (tVar 5))))))
def t_Lsheet (Z : Adr) (W : WX) : TS := (tSeq (tAsg (tCallS (sp_Lheads Z) (WE W) (tCons (tVar 0) tNil)) (gName 2))
    (tSeq (tAsg (tLst (tCons (tCB (rLen Z.K) (tCons (tVar 2) tNil)) tNil)) (gName 3))
    (tSeq (tFor (iList Z.K (tVar 2)) (gUn Z.K 2 (gCons (gName 4) (gCons (gName 5) gNil))) (tDrop (tBM Z.K "list" rExtend (tVar 3) (tCons (tLst (tCons (tVar 4) (tCons (tVar 5) tNil))) tNil))))
    (tSeq (tFor (iList Z.K (tVar 2)) (gUn Z.K 2 (gCons (gName 4) (gCons (gName 5) gNil))) (tDrop (tBM Z.K "list" rExtend (tVar 3) (tCons (tCallS (sp_Lnode Z 12) (WE W) (tCons (tVar 0) (tCons (tVar 2) (tCons (tVar 5) (tCons (tC (.int 1)) (tCons (tLst (tCons (tCallS (sp_Ltake Z) (WE W) (tCons (tVar 0) (tCons (tVar 1) tNil))) tNil)) tNil)))))) tNil))))
    (tRet (tVar 3))))))
def t_Lsheet_with (Z : Adr) (W : WX) : TS := (tSeq (tAsg (tLst (tCons (tCB (rLen Z.K) (tCons (tVar 1) tNil)) tNil)) (gName 3))
    (tSeq (tFor (iList Z.K (tVar 1)) (gUn Z.K 2 (gCons (gName 4) (gCons (gName 5) gNil))) (tDrop (tBM Z.K "list" rExtend (tVar 3) (tCons (tLst (tCons (tVar 4) (tCons (tVar 5) tNil))) tNil))))
    (tSeq (tFor (iList Z.K (tVar 1)) (gUn Z.K 2 (gCons (gName 4) (gCons (gName 5) gNil))) (tDrop (tBM Z.K "list" rExtend (tVar 3) (tCons (tCallS (sp_Lnode Z 12) (WE W) (tCons (tVar 0) (tCons (tVar 1) (tCons (tVar 5) (tCons (tC (.int 1)) (tCons (tLst (tCons (tOp (rAddU Z.K) (tC (.int 1)) (tCallS (sp_Ltake Z) (WE W) (tCons (tVar 0) (tCons (tVar 2) tNil)))) tNil)) tNil)))))) tNil))))
    (tRet (tVar 3)))))
def t_Lmany (Z : Adr) (W : WX) : TS := (tSeq (tAsg (tC (.int 0)) (gName 1))
    (tSeq (tAsg (tLst (tCons (tVar 0) tNil)) (gName 2))
    (tSeq (tWhile (tTest (tOp (rNeU Z.K) (tVar 2) (tLst tNil))) (tSeq (tAsg (tBM0 Z.K "list" rPop (tVar 2)) (gName 3))
    (tSeq (tAsg (tOp (rAddU Z.K) (tOp (rAddU Z.K) (tVar 1) (tC (.int 1))) (tCB (rLen Z.K) (tCons (tOp (rIx Z.K) (tVar 3) (tC (.int 2))) tNil))) (gName 1))
    (tAsg (tOp (rAddU Z.K) (tVar 2) (tCB (rListOf Z.K) (tCons (tOp (rIx Z.K) (tVar 3) (tC (.int 3))) tNil))) (gName 2)))))
    (tRet (tVar 1)))))
def t_Ldepth (Z : Adr) (W : WX) : TS := (tSeq (tAsg (tC (.int 0)) (gName 1))
    (tSeq (tAsg (tLst (tCons (tTup (tCons (tVar 0) (tCons (tC (.int 1)) tNil))) tNil)) (gName 2))
    (tSeq (tWhile (tTest (tOp (rNeU Z.K) (tVar 2) (tLst tNil))) (tSeq (tAsg (tBM0 Z.K "list" rPop (tVar 2)) (gUn Z.K 2 (gCons (gName 3) (gCons (gName 4) gNil))))
    (tSeq (tAsg (tCB rMax2 (tCons (tVar 1) (tCons (tVar 4) tNil))) (gName 1))
    (tAsg (tOp (rAddU Z.K) (tVar 2) (tLc (iTup Z.K (tOp (rIx Z.K) (tVar 3) (tC (.int 3)))) (gName 6) tYes (tTup (tCons (tVar 6) (tCons (tOp (rAddU Z.K) (tVar 4) (tC (.int 1))) tNil))) [5, 6])) (gName 2)))))
    (tRet (tVar 1)))))
def t_Ldepths (Z : Adr) (W : WX) : TS := (tSeq (tAsg (tLst tNil) (gName 1))
    (tSeq (tAsg (tLst tNil) (gName 2))
    (tSeq (tAsg (tUn (rU fun i => .int (-i)) (tC (.int 1))) (gName 3))
    (tSeq (tFor (iList Z.K (tVar 0)) (gName 4) (tSeq (tWhile (tAnd (tTest (tOp (rNeU Z.K) (tVar 2) (tLst tNil))) (tTest (tOp (rI0 fun i j => .bl (decide (j ≤ i))) (tOp (rIx Z.K) (tVar 4) (tC (.int 1))) (tOp (rIx Z.K) (tVar 2) (tUn (rU fun i => .int (-i)) (tC (.int 1))))))) (tDrop (tBM0 Z.K "list" rPop (tVar 2))))
    (C8.tCut (tIfS (tTest (tOp (rEqU Z.K) (tVar 2) (tLst tNil))) (tAsg (tOp (rAddU Z.K) (tVar 3) (tC (.int 1))) (gName 3)) tNext)
    (tSeq (tDrop (tBM Z.K "list" rAppend (tVar 2) (tCons (tOp (rAddU Z.K) (tOp (rIx Z.K) (tVar 4) (tC (.int 1))) (tCallS (sp_Lmany Z) (WE W) (tCons (tVar 4) tNil))) tNil)))
    (tDrop (tBM Z.K "list" rAppend (tVar 1) (tCons (tTup (tCons (tCB (rLen Z.K) (tCons (tVar 2) tNil)) (tCons (tVar 3) tNil))) tNil)))))))
    (tRet (tVar 1))))))
def t_Lin_function (Z : Adr) (W : WX) : TS := (tRet (tLc (iRng1 (tCons (tCB (rLen Z.K) (tCons (tVar 0) tNil)) tNil)) (gName 3) (tTest (tOp (rEqU Z.K) (tOp (rIx Z.K) (tOp (rIx Z.K) (tVar 0) (tVar 3)) (tC (.int 1))) (tVar 1))) (tVar 3) [2, 3]))
def t_Lheads_of (Z : Adr) (W : WX) : TS := (tRet (tLc (iRng1 (tCons (tOp (rIx Z.K) (tVar 0) (tC (.int 0))) tNil)) (gName 2) tYes (tTup (tCons (tOp (rIx Z.K) (tVar 0) (tOp (rAddU Z.K) (tC (.int 1)) (tOp rMul (tC (.int 2)) (tVar 2)))) (tCons (tOp (rIx Z.K) (tVar 0) (tOp (rAddU Z.K) (tC (.int 2)) (tOp rMul (tC (.int 2)) (tVar 2)))) tNil))) [1, 2]))
def t_Lput (Z : Adr) (W : WX) : TS := (tSeq (tAsg (tOp (rAddU Z.K) (tOp (rIx Z.K) (tVar 1) (tC (.int 1))) (tCallS (sp_Lmany Z) (WE W) (tCons (tVar 1) tNil))) (gName 3))
    (tRet (tOp (rAddU Z.K) (tOp (rAddU Z.K) (tSl (rSlU Z.K) (tVar 0) tNoPart (tPart (tOp (rIx Z.K) (tVar 1) (tC (.int 1))))) (tVar 2)) (tSl (rSlU Z.K) (tVar 0) (tPart (tVar 3)) tNoPart))))
def t_Lall_bare (Z : Adr) (W : WX) : TS := (tRet (tLc (iList Z.K (tVar 0)) (gName 2) tYes (tTup (tCons (tOp (rIx Z.K) (tVar 2) (tC (.int 0))) (tCons (tOp (rIx Z.K) (tVar 2) (tC (.int 2))) tNil))) [1, 2]))
def t_Lexchanged (Z : Adr) (W : WX) : TS := (tSeq (tAsg (tOp (rIx Z.K) (tVar 1) (tVar 2)) (gName 5))
    (tSeq (tAsg (tOp (rIx Z.K) (tOp (rIx Z.K) (tCallS (sp_Ldepths Z) (WE W) (tCons (tVar 1) tNil)) (tVar 2)) (tC (.int 0))) (gName 6))
    (tSeq (tAsg (tCallS (sp_Lput Z) (WE W) (tCons (tVar 0) (tCons (tVar 5) (tCons (tVar 3) tNil)))) (gName 7))
    (tSeq (tAsg (tCallS (sp_wrong Z) (WE W) (tCons (tVar 7) tNil)) (gName 8))
    (tSeq (tIfS (tTest (tOp (rI0 fun i j => .bl (decide (j < i))) (tOp (rAddU Z.K) (tOp (rI0 fun i j => .int (i - j)) (tVar 6) (tC (.int 1))) (tVar 4)) (tC (.int 10)))) (tRet (tAndV (tCB (rIsi2 Z.K) (tCons (tVar 8) (tCons (tC (.ty "tuple")) tNil))) (tOp (rEqU Z.K) (tOp (rIx Z.K) (tVar 8) (tC (.int 1))) (tC (.str "deep"))))) tNext)
    (tSeq (tIfS (tTest (tOp rNotU (tVar 8) (tC .non))) (tRet (tC (.bl false))) tNext)
    (tSeq (tAsg (tOp (rAddU Z.K) (tOp (rIx Z.K) (tVar 5) (tC (.int 1))) (tCallS (sp_Lmany Z) (WE W) (tCons (tVar 5) tNil))) (gName 9))
    (tSeq (tAsg (tCB (rLen Z.K) (tCons (tLc (iList Z.K (tVar 1)) (gName 16) (tTest (tChain (rI0 fun i j => .bl (decide (i ≤ j))) (rI0 fun i j => .bl (decide (i < j))) (tOp (rIx Z.K) (tVar 5) (tC (.int 1))) (tOp (rIx Z.K) (tVar 16) (tC (.int 1))) (tVar 9))) (tVar 16) [15, 16]) tNil)) (gName 10))
    (tSeq (tAsg (tCallS (sp_nodes Z) (WE W) (tCons (tVar 7) tNil)) (gName 11))
    (tSeq (tAsg (tOp (rI0 fun i j => .int (i - j)) (tOp (rI0 fun i j => .int (i - j)) (tCB (rLen Z.K) (tCons (tVar 1) tNil)) (tVar 2)) (tVar 10)) (gName 12))
    (tSeq (tIfS (tTest (tOp (rNeU Z.K) (tCallS (sp_Lall_bare Z) (WE W) (tCons (tSl (rSlU Z.K) (tVar 11) tNoPart (tPart (tVar 2))) tNil)) (tCallS (sp_Lall_bare Z) (WE W) (tCons (tSl (rSlU Z.K) (tVar 1) tNoPart (tPart (tVar 2))) tNil)))) (tRet (tC (.bl false))) tNext)
    (tSeq (tAsg (tSl (rSlU Z.K) (tVar 11) (tPart (tOp (rI0 fun i j => .int (i - j)) (tCB (rLen Z.K) (tCons (tVar 11) tNil)) (tVar 12))) tNoPart) (gName 13))
    (tSeq (tIfS (tTest (tOp (rNeU Z.K) (tCallS (sp_Lall_bare Z) (WE W) (tCons (tVar 13) tNil)) (tCallS (sp_Lall_bare Z) (WE W) (tCons (tSl (rSlU Z.K) (tVar 1) (tPart (tOp (rAddU Z.K) (tVar 2) (tVar 10))) tNoPart) tNil)))) (tRet (tC (.bl false))) tNext)
    (tSeq (tAsg (tSl (rSlU Z.K) (tVar 0) (tPart (tOp (rIx Z.K) (tVar 5) (tC (.int 1)))) (tPart (tOp (rAddU Z.K) (tOp (rIx Z.K) (tVar 5) (tC (.int 1))) (tCallS (sp_Lmany Z) (WE W) (tCons (tVar 5) tNil))))) (gName 14))
    (tRet (tOp (rEqU Z.K) (tCallS (sp_Lput Z) (WE W) (tCons (tVar 7) (tCons (tOp (rIx Z.K) (tVar 11) (tVar 2)) (tCons (tVar 14) tNil)))) (tVar 0)))))))))))))))))
def t_law (Z : Adr) (W : WX) : TS := (tSeq (tAsg (tLst (tCons (tVar 0) (tCons (tC (.int 0)) (tCons (tC (.int 0)) tNil)))) (gName 1))
    (tSeq (tAsg (tCallS (sp_Lsheet Z) (WE W) (tCons (tVar 1) (tCons (tC (.int 14)) tNil))) (gName 2))
    (tSeq (tAsg (tCallS (sp_Lheads_of Z) (WE W) (tCons (tVar 2) tNil)) (gName 3))
    (tSeq (tAsg (tCallS (sp_Lsheet_with Z) (WE W) (tCons (tVar 1) (tCons (tVar 3) (tCons (tC (.int 9)) tNil)))) (gName 4))
    (tSeq (tAsg (tCallS (sp_nodes Z) (WE W) (tCons (tVar 2) tNil)) (gName 5))
    (tSeq (tAsg (tCallS (sp_nodes Z) (WE W) (tCons (tVar 4) tNil)) (gName 6))
    (tSeq (tAsg (tCallS (sp_Ldepths Z) (WE W) (tCons (tVar 5) tNil)) (gName 7))
    (tSeq (tAsg (tCallS (sp_Ldepths Z) (WE W) (tCons (tVar 6) tNil)) (gName 8))
    (tSeq (tFor (iRng1 (tCons (tC (.int 10)) tNil)) (gName 9) (tSeq (tAsg (tCallS (sp_Ltake Z) (WE W) (tCons (tVar 1) (tCons (tCB (rLen Z.K) (tCons (tVar 5) tNil)) tNil))) (gName 10))
    (tSeq (tAsg (tCallS (sp_Lin_function Z) (WE W) (tCons (tVar 8) (tCons (tOp (rIx Z.K) (tOp (rIx Z.K) (tVar 7) (tVar 10)) (tC (.int 1))) tNil))) (gName 11))
    (tSeq (tAsg (tOp (rIx Z.K) (tVar 6) (tOp (rIx Z.K) (tVar 11) (tCallS (sp_Ltake Z) (WE W) (tCons (tVar 1) (tCons (tCB (rLen Z.K) (tCons (tVar 11) tNil)) tNil))))) (gName 12))
    (tSeq (tAsg (tSl (rSlU Z.K) (tVar 4) (tPart (tOp (rIx Z.K) (tVar 12) (tC (.int 1)))) (tPart (tOp (rAddU Z.K) (tOp (rIx Z.K) (tVar 12) (tC (.int 1))) (tCallS (sp_Lmany Z) (WE W) (tCons (tVar 12) tNil))))) (gName 13))
    (tSeq (tIfS (tNot (tB (tCallS (sp_Lexchanged Z) (WE W) (tCons (tVar 2) (tCons (tVar 5) (tCons (tVar 10) (tCons (tVar 13) (tCons (tCallS (sp_Ldepth Z) (WE W) (tCons (tVar 12) tNil)) tNil)))))))) (tRet (tC (.bl false))) tNext)
    (tSeq (tAsg (tSl (rSlU Z.K) (tVar 2) (tPart (tOp (rIx Z.K) (tOp (rIx Z.K) (tVar 5) (tVar 10)) (tC (.int 1)))) (tPart (tOp (rAddU Z.K) (tOp (rIx Z.K) (tOp (rIx Z.K) (tVar 5) (tVar 10)) (tC (.int 1))) (tCallS (sp_Lmany Z) (WE W) (tCons (tOp (rIx Z.K) (tVar 5) (tVar 10)) tNil))))) (gName 14))
    (tSeq (tAsg (tOp (rAddU Z.K) (tC (.int 1)) (tCallS (sp_Ldepth Z) (WE W) (tCons (tOp (rIx Z.K) (tVar 5) (tVar 10)) tNil))) (gName 15))
    (tIfS (tNot (tB (tCallS (sp_Lexchanged Z) (WE W) (tCons (tVar 2) (tCons (tVar 5) (tCons (tVar 10) (tCons (tOp (rAddU Z.K) (tLst (tCons (tC (.int 3)) (tCons (tC (.int 1)) tNil))) (tVar 14)) (tCons (tVar 15) tNil)))))))) (tRet (tC (.bl false))) tNext)))))))))
    (tRet (tOp rIsU (tCallS (sp_wrong Z) (WE W) (tCons (tVar 2) tNil)) (tC .non))))))))))))
end My
local macro_rules | `(tactic| walk_at "own") => `(tactic| first
  | ((with_reducible refine' My.fg_Look_numbers ?zt ?zh ?_); (case zt => with_reducible assumption); case zh => walk_at "hp")
  | ((with_reducible refine' My.fg_Look_place ?zt ?zh ?_); (case zt => with_reducible assumption); case zh => walk_at "hp")
  | ((with_reducible refine' My.ms_Look_due ?zh ?_); case zh => walk_at "hp")
  | ((with_reducible refine' My.ms_Look_within ?zh ?_); case zh => walk_at "hp"))
/-! ### the steps, tried in turn -/
local macro_rules | `(tactic| walk_at "hp") => `(tactic| first
  | with_reducible assumption
  | with_reducible exact L2.upd_same
  | ((with_reducible refine' Z.up_new ?zn ?zq); (case zn => with_reducible assumption); case zq => walk_at "hp")
  | ((with_reducible refine' Z.up_far ?zn ?zq); (case zn => walk_at "ne"); case zq => walk_at "hp")
  | ((with_reducible refine' Z.sm_rd ?zn ?zq); (case zn => with_reducible assumption); case zq => walk_at "hp")
  | ((with_reducible refine' Z.But.rd ?zn ?zm ?zq); (case zn => with_reducible assumption); (case zm => walk_at "ne"); case zq => walk_at "hp"))
local macro_rules | `(tactic| walk_at "ne") => `(tactic| first
  | with_reducible assumption
  | ((with_reducible refine' Ne.symm ?_); with_reducible assumption)
  | ((with_reducible refine' L2.ne_of_none ?zn ?zm); (case zn => with_reducible assumption); case zm => with_reducible assumption)
  | ((with_reducible refine' Ne.symm (L2.ne_of_none ?zn ?zm)); (case zn => with_reducible assumption); case zm => with_reducible assumption))
local macro_rules | `(tactic| walk_at "sq") => `(tactic| first
  | with_reducible assumption
  | ((with_reducible refine' L2.SqL.of ?zq); case zq => walk_at "hp")
  | ((with_reducible refine' L2.SqT.of ?zq); case zq => walk_at "hp")
  | ((with_reducible refine' Z.Same.seq ?zn ?zq); (case zn => with_reducible assumption); case zq => walk_at "sq")
  | ((with_reducible refine' Z.same_sqT ?zn ?zq); (case zn => with_reducible assumption); case zq => walk_at "sq")
  | ((with_reducible refine' Z.But.sqL ?zn ?zm ?zq); (case zn => with_reducible assumption); (case zm => walk_at "ne"); case zq => walk_at "sq")
  | ((with_reducible refine' Z.But.sqT ?zn ?zm ?zq); (case zn => with_reducible assumption); (case zm => walk_at "ne"); case zq => walk_at "sq"))
local macro_rules | `(tactic| walk_at "fit") => `(tactic| first
  | (refine Nat.le_of_ble_eq_true ?_; rfl) | omega)
local macro_rules | `(tactic| walk_at "s") => `(tactic| first
  | with_reducible refine Z.s_seq ?_
  | with_reducible refine Z.s_set ?_
  | ((with_reducible refine' Z.s_var ?zh ?_); case zh => exact rfl)
  | with_reducible refine Z.s_c ?_
  | with_reducible refine Z.s_op ?_
  | with_reducible refine Z.s_cons ?_
  | with_reducible refine Z.s_nil ?_
  | with_reducible refine Z.s_cb ?_
  | with_reducible refine Z.s_callS ?_
  | with_reducible refine Z.s_rI0 ?_
  | with_reducible refine Z.s_add_i ?_
  | with_reducible refine Z.s_test ?_
  | with_reducible refine Z.s_zB ?_
  | with_reducible refine Z.s_if ?_
  | with_reducible refine Z.s_ret ?_
  | with_reducible refine Z.s_next ?_
  | with_reducible refine Z.s_drop ?_
  | with_reducible refine Z.s_eq_i ?_
  | with_reducible refine Z.s_ne_i ?_
  | with_reducible refine Z.s_eq_s ?_
  | with_reducible refine Z.s_ne_s ?_
  | with_reducible refine Z.s_and ?_
  | with_reducible refine Z.s_or ?_
  | with_reducible refine Z.s_not ?_
  | with_reducible refine Z.s_chain ?_
  | with_reducible refine Z.s_B ?_
  | with_reducible refine Z.s_tup ?_
  | with_reducible refine Z.s_lst ?_
  | ((with_reducible refine' Z.s_ztup ?zh ?_); case zh => exact rfl)
  | ((with_reducible refine' Z.s_zlst ?zh ?_); case zh => exact rfl)
  | with_reducible refine Z.s_un ?_
  | with_reducible refine Z.s_rU ?_
  | with_reducible refine Z.s_p18 ?_
  | with_reducible refine Z.s_min2 ?_
  | with_reducible refine Z.s_max2 ?_
  | with_reducible refine Z.s_abs ?_
  | with_reducible refine Z.s_int1 ?_
  | with_reducible refine Z.s_int1b ?_
  | with_reducible refine Z.s_bm ?_
  | with_reducible refine Z.s_bm0 ?_
  | with_reducible refine Z.s_fld ?_
  | with_reducible refine Z.s_dget ?_
  | with_reducible refine Z.s_din ?_
  | with_reducible refine Z.s_dnotin ?_
  | with_reducible refine Z.s_dnew ?_
  | with_reducible refine Z.s_dput ?_
  | with_reducible refine Z.s_disp ?_
  | with_reducible refine Z.s_asg ?_
  | with_reducible refine Z.s_gname ?_
  | with_reducible refine Z.s_gsub ?_
  | with_reducible refine Z.s_gcons ?_
  | with_reducible refine Z.s_gnil ?_
  | with_reducible refine Z.s_for ?_
  | with_reducible refine Z.s_rng1 ?_
  | with_reducible refine Z.s_rng2 ?_
  | with_reducible refine Z.s_itl ?_
  | with_reducible refine Z.s_itt ?_
  | with_reducible refine Z.s_isU_n ?_
  | with_reducible refine Z.s_notU_n ?_
  | with_reducible refine Z.s_isU_b ?_
  | with_reducible refine Z.s_notU_b ?_
  | with_reducible refine Z.s_isN_i ?_
  | with_reducible refine Z.s_isN_r ?_
  | with_reducible refine Z.s_isN_s ?_
  | with_reducible refine Z.s_isN_n ?_
  | with_reducible refine Z.s_notN_i ?_
  | with_reducible refine Z.s_notN_r ?_
  | with_reducible refine Z.s_notN_s ?_
  | with_reducible refine Z.s_notN_n ?_
  | with_reducible refine Z.s_slL ?_
  | with_reducible refine Z.s_nopart ?_
  | with_reducible refine Z.s_part ?_
  | with_reducible refine Z.s_zpart ?_
  | ((with_reducible refine' Z.s_cutL ?zh ?_); case zh => walk_at "sq")
  | with_reducible refine Z.s_ift ?_
  | with_reducible refine Z.s_iff ?_
  | with_reducible refine Z.s_nt ?_
  | with_reducible refine Z.s_nf ?_
  | with_reducible refine Z.s_zbody ?_
  | with_reducible refine Z.s_lc ?_
  | with_reducible refine Z.s_yes ?_
  | ((with_reducible refine Z.s_wipe ?zh ?_); case zh => rfl)
  | ((with_reducible refine' Z.s_zitl ?zh ?_); case zh => walk_at "sq")
  | ((with_reducible refine' Z.s_zitt ?zh ?_); case zh => walk_at "sq")
  | with_reducible refine Z.s_ifE ?_
  | with_reducible refine Z.s_andV ?_
  | with_reducible refine Z.s_orV ?_
  | with_reducible refine Z.s_notV ?_
  | with_reducible refine Z.s_retN ?_
  | with_reducible refine Z.s_break ?_
  | with_reducible refine Z.s_cont ?_
  | ((with_reducible refine Z.s_zrng1 ?zh ?_); case zh => omega)
  | ((with_reducible refine Z.s_zrng2 ?zh ?_); case zh => omega)
  | ((with_reducible refine Z.s_modp ?zh ?_); case zh => omega)
  | ((with_reducible refine Z.s_fdvp ?zh ?_); case zh => omega)
  | ((with_reducible refine Z.s_mulp ?zh ?_); case zh => omega)
  | ((with_reducible refine' Z.s_len_l ?zh ?_); case zh => walk_at "sq")
  | ((with_reducible refine' Z.s_len_t ?zh ?_); case zh => walk_at "sq")
  | ((with_reducible refine' Z.s_zTyL ?zh ?_); case zh => walk_at "hp")
  | with_reducible refine Z.s_meth ?_
  | with_reducible refine Z.s_make ?_
  | with_reducible refine Z.s_fldset ?_
  | with_reducible refine Z.s_rev ?_
  | ((with_reducible refine' Z.s_zrev ?zh ?_); case zh => walk_at "sq")
  | with_reducible refine Z.s_lstRg ?_
  | with_reducible refine Z.isi_int ?_
  | with_reducible refine Z.isi_int_bool ?_
  | ((with_reducible refine' Z.isi_list ?zh ?_); case zh => walk_at "sq")
  | ((with_reducible refine' Z.isi_tup ?zh ?_); case zh => walk_at "sq")
  | walk_at "own"
  | with_reducible refine Z.s_zTyS ?_
  | ((with_reducible refine' Z.s_zTyL' ?zh ?_); case zh => walk_at "sq")
  | ((with_reducible refine' Z.s_listof_l ?zh ?_); case zh => walk_at "sq")
  | ((with_reducible refine' Z.s_listof_t ?zh ?_); case zh => walk_at "sq")
  | ((with_reducible refine' Z.s_tupof_l ?zh ?_); case zh => walk_at "sq")
  | ((with_reducible refine' Z.s_tupof_t ?zh ?_); case zh => walk_at "sq")
  | ((with_reducible refine' Z.s_gun_t ?zh ?zl ?_); (case zh => walk_at "sq"); case zl => rfl)
  | ((with_reducible refine' Z.s_gun_l ?zh ?zl ?_); (case zh => walk_at "sq"); case zl => rfl))
local macro_rules | `(tactic| walk_at "zz") => `(tactic| repeat (walk_at "s"))
/-! ### pens and frames -/
local macro_rules | `(tactic| walk_at "st") => `(tactic| first
  | with_reducible assumption
  | ((with_reducible refine' Z.Pn.new ?zs ?zn); (case zn => with_reducible assumption); case zs => walk_at "st")
  | ((with_reducible refine' Z.Pn.same ?zs ?zn); (case zn => with_reducible assumption); case zs => walk_at "st")
  | ((with_reducible refine' Z.Pn.butN ?zs ?zb ?zn); (case zb => with_reducible assumption); (case zn => walk_at "np"); case zs => walk_at "st"))
local macro_rules | `(tactic| walk_at "np") => `(tactic| first
  | with_reducible assumption
  | ((with_reducible refine' Ne.symm ?_); with_reducible assumption)
  | ((with_reducible refine' Z.Pn.ne ?zs ?zn); (case zn => with_reducible assumption); case zs => walk_at "st")
  | ((with_reducible refine' Ne.symm (Z.Pn.ne ?zs ?zn)); (case zn => with_reducible assumption); case zs => walk_at "st")
  | ((with_reducible refine' L2.ne_of_none ?zn ?zm); (case zm => with_reducible assumption); case zn => walk_at "hp")
  | ((with_reducible refine' Ne.symm (L2.ne_of_none ?zn ?zm)); (case zm => with_reducible assumption); case zn => walk_at "hp"))
local macro_rules | `(tactic| walk_at "no") => `(tactic| first
  | with_reducible assumption
  | ((with_reducible refine' Z.Same.free ?zs ?zn); (case zn => with_reducible assumption); case zs => walk_at "sm")
  | ((with_reducible refine' Z.But.none ?zs ?zm ?zn); (case zn => with_reducible assumption); (case zs => walk_at "bt"); case zm => walk_at "np"))
local macro_rules | `(tactic| walk_at "sm") => `(tactic| first
  | with_reducible assumption
  | ((with_reducible refine' Z.same_new ?zn); (case zn => with_reducible assumption))
  | ((with_reducible refine' Z.Same.trans ?zs (Z.same_new ?zn)); (case zn => with_reducible assumption); case zs => walk_at "sm")
  | ((with_reducible refine' Z.same_own ?zs ?zb ?zn); (case zb => with_reducible assumption); (case zs => walk_at "sm"); case zn => walk_at "no")
  | ((with_reducible refine' Z.Same.trans ?zs ?zn); (case zn => with_reducible assumption); case zs => walk_at "sm")
  | with_reducible exact Z.Same.refl _)
local macro_rules | `(tactic| walk_at "bt") => `(tactic| first
  | with_reducible assumption
  | ((with_reducible refine' Z.But.new ?zs ?zn); (case zn => with_reducible assumption); case zs => walk_at "bt")
  | ((with_reducible refine' Z.But.trans ?zs ?zn); (case zn => with_reducible assumption); case zs => walk_at "bt")
  | ((with_reducible refine' Z.But.trans ?zs (Z.But.of ?zn)); (case zn => with_reducible assumption); case zs => walk_at "bt")
  | ((with_reducible refine' Z.But.own ?zs ?zb ?zn); (case zb => with_reducible assumption); (case zs => walk_at "bt"); case zn => walk_at "no")
  | with_reducible exact Z.But.refl _ _)
local macro_rules | `(tactic| walk_at "tk") => `(tactic| first
  | ((with_reducible refine' My.c_take ?zm ?zs ?_); (case zm => omega); (case zs => walk_at "st")))
/-! ### nodes in a law's text -/
local macro_rules | `(tactic| walk_at "ow") => `(tactic| first
  | exact My.own5
  | exact My.own7
  | exact My.own8 (by omega) rfl
  | exact My.own0 (by first | assumption | exact My.fig_sm (by omega))
  | exact My.own1 (by omega)
  | exact My.own2 (by omega)
  | exact My.own3 (by omega) rfl
  | exact My.own4 (m := 2) (by omega) rfl
  | exact My.own4 (m := 3) (by omega) rfl
  | exact My.own6 (n := 0) rfl rfl rfl
  | exact My.own6 (n := 1) rfl rfl rfl)
local macro_rules | `(tactic| walk_at "bi") => `(tactic| first
  | ((with_reducible refine' My.bi_nil ?zo); case zo => walk_at "ow")
  | ((with_reducible refine' My.bi_c ?zo); case zo => walk_at "ow")
  | ((with_reducible refine' My.bi_neg ?zo); case zo => walk_at "ow")
  | ((refine' My.bi_v rfl ?zo); case zo => walk_at "ow")
  | ((refine' My.bi_take rfl ?zd ?zo); (case zd => decide); case zo => (intro z z0 z1; walk_at "ow"))
  | ((refine' My.bi_num rfl ?zo); case zo => (intro z hz; exact My.own0 hz)))
local macro_rules | `(tactic| walk_at "bp") => `(tactic| first
  | with_reducible exact My.bp_nil
  | ((with_reducible refine' My.bp_cons ?zd ?zp); (case zd => walk_at "bd"); case zp => walk_at "bp"))
local macro_rules | `(tactic| walk_at "bd") => `(tactic| first
  | assumption
  | exact My.bd_var rfl (by assumption) (by assumption) (by assumption) (by omega) (by assumption)
  | ((with_reducible refine' My.bd_node (by assumption) (by decide) ?zo ?zp); (case zp => walk_at "bp"); case zo => walk_at "bi")
  | ((with_reducible refine' My.bd_loop (by assumption) ?zo ?zp); (case zp => walk_at "bp"); case zo => walk_at "bi"))
local macro_rules | `(tactic| walk_at "zn") => `(tactic| repeat ((fail_if_success (with_reducible refine Z.s_tup ?_)); walk_at "s"))
namespace My
open PySem Z
open L2 hiding rLen Same Same.refl Same.trans Same.free Same.seq Same.made
variable [iq : TQ]
theorem rd_NoSheet_init {Z : Adr} (T : Top Z) {a0 a1 a2 : V} {H : Hp} {Q : VK} {E : XK} (h : q_NoSheet_init Z a0 a1 a2 H Q E) : t_NoSheet_init Z (fun cls d _ H => E cls d H) ⟨fun _ H' => Q .non H', Q, fun _ _ => False, fun _ _ => False⟩ [some a0, some a1, some a2] H := by
  unfold t_NoSheet_init
  obtain ⟨p, rfl, hp, q⟩ := h
  walk_at "zz"
  refine s_vei ?_
  walk_at "zz"
  refine ⟨p, Z.c_NoSheet, [_], rfl, by show 1 ≤ 1000; decide, T.ox_NoSheet, hp, ?_⟩
  walk_at "zz"
  refine s_ost ?_
  walk_at "zz"
  refine ⟨p, Z.c_NoSheet, rfl, T.ox_NoSheet, T.na_NoSheet_place, .inl ⟨hp, fun d hd hdp => ?_⟩⟩
  refine s_ost ?_
  walk_at "zz"
  refine ⟨p, Z.c_NoSheet, rfl, T.ox_NoSheet, T.na_NoSheet_word, .inr ⟨d, _, upd_same, by rw [upd_ne hdp]; exact upd_same, by show 1 ≤ 900; decide, ?_⟩⟩
  exact q d hd hdp

theorem rd_parts_of {Z : Adr} (T : Top Z) {a0 : V} {H : Hp} {Q : VK} {E : XK} (h : q_parts_of Z a0 H Q E) : t_parts_of Z (fun cls d _ H => E cls d H) ⟨fun _ H' => Q .non H', Q, fun _ _ => False, fun _ _ => False⟩ [some a0] H := by
  unfold t_parts_of
  obtain ⟨i, rfl, q⟩ := h
  unfold manyP at q
  walk_at "zz"
  refine s_ifd (fun c => ?_) (fun c => ?_)
  · rw [if_pos c] at q
    walk_at "zz"
    exact q _ (Same.refl H)
  · rw [if_neg c] at q
    walk_at "zz"
    intro t ht
    walk_at "zz"
    refine s_in_t (SqT.of upd_same) rfl rfl ?_
    walk_at "zz"
    have S := same_new (o := .tup [.int 7, .int 18]) ht
    have e : inV (.int i) [.int 7, .int 18] = decide (i = 7 ∨ i = 18) := by
      simp only [inV, List.any, eqV, Bool.or_false]
      rw [Bool.decide_or]
      congr 1 <;> (rw [Bool.eq_iff_iff]; simp; omega)
    rw [e]
    refine s_ifd (fun c => ?_) (fun c => ?_)
    · rw [if_pos c] at q
      walk_at "zz"
      exact q _ S
    · rw [if_neg c] at q
      walk_at "zz"
      refine s_ifd (fun c => ?_) (fun c => ?_)
      · rw [if_pos c] at q
        walk_at "zz"
        exact q _ S
      · rw [if_neg c] at q
        walk_at "zz"
        exact q _ S

theorem rd_Look_init {Z : Adr} (T : Top Z) {a0 a1 : V} {H : Hp} {Q : VK} {E : XK} (h : q_Look_init Z a0 a1 H Q E) : t_Look_init Z (fun cls d _ H => E cls d H) ⟨fun _ H' => Q .non H', Q, fun _ _ => False, fun _ _ => False⟩ [some a0, some a1] H := by
  unfold t_Look_init
  obtain ⟨p, dx, a, xs, rfl, rfl, hp, hs, q⟩ := h
  walk_at "zz"
  intro l hl
  walk_at "zz"
  have np : p ≠ l := ne_of_none hp hl
  refine fn_Look_numbers T (up_far np hp) fun H1 B1 hp1 => ?_
  have hl1 := B1.rd np.symm (upd_same (H := H) (a := l) (o := .lst (xs.map V.int)))
  walk_at "zz"
  refine fn_Look_place T hp1 fun H2 B2 hp2 => ?_
  walk_at "zz"
  exact q l _ (((But.refl p H).new hl).trans (B1.trans B2)) ⟨hp2, B2.rd np.symm hl1⟩ hl

theorem rd_Look_due {Z : Adr} (T : Top Z) {a0 : V} {H : Hp} {Q : VK} {E : XK} (h : q_Look_due Z a0 H Q E) : t_Look_due Z (fun cls d _ H => E cls d H) ⟨fun _ H' => Q .non H', Q, fun _ _ => False, fun _ _ => False⟩ [some a0] H := by
  unfold t_Look_due
  obtain ⟨p, dx, l, xs, k, rfl, hkl, L, q, qe⟩ := h
  have hp := L.o
  have hl := L.n
  walk_at "zz"
  cases e : dueP xs k with
  | error er =>
    obtain ⟨rfl, hk⟩ := dueP_err e
    refine s_ifdt (by rw [List.length_map]; omega) ?_
    refine s_raiseO ?_
    walk_at "zz"
    exact raise_NoSheet (Z := Z) (W := fun cls d _ H' => E cls d H') (σ := []) fun d H' S x => qe _ e d H' (But.of S) x
  | ok v =>
    have e' := dueP_ok e
    have hk := (List.getElem?_eq_some_iff.mp e').1
    refine s_ifdf (by rw [List.length_map]; omega) ?_
    walk_at "zz"
    refine fp_Look_place T hp fun H1 B1 hp1 => ?_
    have L1 : LookAt Z H1 p dx l xs (k + 1) := L.go B1 hp1
    have hl1 := L1.n
    walk_at "zz"
    refine s_ix_l (SqL.of hl1) (at_of (j := k) (v := .int v) (by omega) (by rw [List.getElem?_map, e']; rfl)) ?_
    exact q v e _ B1 L1

theorem rd_Look_within {Z : Adr} (T : Top Z) {a0 a1 a2 : V} {H : Hp} {Q : VK} {E : XK} (h : q_Look_within Z a0 a1 a2 H Q E) : t_Look_within Z (fun cls d _ H => E cls d H) ⟨fun _ H' => Q .non H', Q, fun _ _ => False, fun _ _ => False⟩ [some a0, some a1, some a2, none] H := by
  unfold t_Look_within
  obtain ⟨p, dx, l, xs, k, a, b, rfl, rfl, rfl, hkl, L, q, qe⟩ := h
  have hp := L.o
  walk_at "zz"
  refine cl_Look_due ⟨p, dx, l, xs, k, rfl, hkl, L, fun v ev H1 B1 L1 => ?_, fun er ee => qe er (bindR_of_err ee)⟩
  have hp1 := L1.o
  by_cases c : a ≤ v ∧ v ≤ b
  · walk_at "zz"
    refine s_ifdt c.1 ?_
    walk_at "zz"
    rw [decide_eq_true c.2]
    walk_at "zz"
    exact q v (by unfold withinP; rw [bindR_of ev, if_pos c]) _ B1 L1
  · have er : withinP xs k a b = .error ((k : Int), ("range" : Str)) := by unfold withinP; rw [bindR_of ev, if_neg c]
    walk_at "zz"
    have fin : zMkO Z.c_NoSheet (sp_NoSheet_init Z) [.int (((k + 1 : Nat) : Int) - 1), .str "range"] H1 fun cls d H' => E cls d H' := by
      rw [show ((k + 1 : Nat) : Int) - 1 = (k : Int) by omega]
      exact raise_NoSheet (W := fun cls d _ H' => E cls d H') (σ := []) fun d H' S x => qe _ er d H' (B1.trans (But.of S)) x
    refine s_ifd (fun c1 => ?_) (fun c1 => ?_)
    · walk_at "zz"
      rw [decide_eq_false (fun z => c ⟨c1, z⟩)]
      walk_at "zz"
      refine s_raiseO ?_
      walk_at "zz"
      exact fin
    · walk_at "zz"
      refine s_raiseO ?_
      walk_at "zz"
      exact fin

theorem rd_heads_in {Z : Adr} (T : Top Z) {a0 : V} {H : Hp} {Q : VK} {E : XK} (h : q_heads_in Z a0 H Q E) : t_heads_in Z (fun cls d _ H => E cls d H) ⟨fun _ H' => Q .non H', Q, fun _ _ => False, fun _ _ => False⟩ [some a0, none, none, none] H := by
  unfold t_heads_in
  obtain ⟨p, dx, l, xs, rfl, L, q, qe⟩ := h
  walk_at "zz"
  intro lh hlh
  have L0 := L.new (o := .lst []) hlh
  have hp := L0.o
  have nlp : lh ≠ p := (ne_of_none L.o hlh).symm
  have nll : l ≠ lh := ne_of_none L.n hlh
  have B00 : But p H (upd H lh (.lst [])) := (But.refl p H).new hlh
  walk_at "zz"
  refine cl_Look_within ⟨p, dx, l, xs, 0, 1, 16, rfl, rfl, rfl, Nat.zero_le _, L0, fun n en H1 B1 L1 => ?_, fun er ee => (show ErrS Z p H er E from qe er (bindR_of_err ee)).trans B00⟩
  obtain ⟨e0, n1, n2⟩ := withinP_ok en
  have k1 := (List.getElem?_eq_some_iff.mp e0).1
  have eh : headsP xs = headsL xs n.toNat := by unfold headsP; rw [bindR_of en]
  have hl1 := B1.rd nlp (upd_same (H := H) (a := lh) (o := .lst []))
  have B01 : But p H H1 := B00.trans B1
  walk_at "zz"
  refine loop_range (fun i σ' H' => LookAt Z H' p dx l xs (1 + 2 * i) ∧ But p H H' ∧ 1 + 2 * i ≤ xs.length ∧ ∃ r vs x2 x3, headsL xs i = .ok r ∧ H' lh = some (.lst vs) ∧ PairsAt H' r vs ∧ σ' = [some (.ref p), some (.ref lh), x2, x3]) ⟨L1, B01, k1, [], [], _, _, rfl, hl1, rfl, rfl⟩ ?_ ?_
  · rintro i σ' H2 hi ⟨L2, B2, k2, r, vs, x2, x3, er, hv, hP, rfl⟩
    have hp2 := L2.o
    have len := headsL_len er
    have err : ∀ e, headsL xs (i + 1) = .error e → headsP xs = .error e := fun e h => by rw [eh]; exact headsL_err h hi
    walk_at "zz"
    refine cl_Look_within ⟨p, dx, l, xs, _, 0, (if 0 < i then 4 else 0), rfl, rfl, ?_, k2, L2, fun pa ep H3 B3 L3 => ?_, fun e ee => (show ErrS Z p H e E from qe e (err e (by unfold headsL; rw [bindR_of er]; exact bindR_of_err ee))).trans B2⟩
    · congr 1
      by_cases c : 0 < i
      · rw [if_pos c, if_pos (decide_eq_true (by omega))]; rfl
      · rw [if_neg c, if_neg (by simp; omega)]; rfl
    have hp3 := L3.o
    have k3 := (List.getElem?_eq_some_iff.mp (withinP_ok ep).1).1
    walk_at "zz"
    refine cl_Look_within ⟨p, dx, l, xs, _, pa, 12, rfl, rfl, rfl, k3, L3, fun b eb H4 B4 L4 => ?_, fun e ee => (show ErrS Z p H e E from qe e (err e (by unfold headsL; rw [bindR_of er, bindR_of ep]; refine bindR_of_err ?_; rw [show 2 + 2 * i = 1 + 2 * i + 1 by omega]; exact ee))).trans (B2.trans B3)⟩
    have k4 := (List.getElem?_eq_some_iff.mp (withinP_ok eb).1).1
    have er2 : headsL xs (i + 1) = .ok (r ++ [(pa, b)]) := by unfold headsL; rw [bindR_of er, bindR_of ep, bindR_of (by rw [show 2 + 2 * i = 1 + 2 * i + 1 by omega]; exact eb)]
    have T34 : TupS H2 H4 := (L2.tups B3).trans (L3.tups B4)
    have hv4 := B4.rd nlp (B3.rd nlp hv)
    walk_at "zz"
    intro t ht
    walk_at "zz"
    have nt : lh ≠ t := ne_of_none hv4 ht
    refine c_append (up_new ht hv4) (small1000 (by rw [hP.len, len]; omega)) fun H5 B5 h5 => ?_
    have T5 : TupS (upd H4 t (.tup [.int pa, .int b])) H5 := TupS.but B5 (up_new ht hv4) fun ys e => by cases e
    walk_at "zz"
    refine ⟨?_, (((B2.trans B3).trans B4).new ht).own B5 hlh, by omega, _, _, _, _, er2, h5, ((hP.mono (T34.trans (TupS.new ht))).mono T5).app (T5 _ _ upd_same), rfl⟩
    have := (L4.new (o := .tup [.int pa, .int b]) ht).own B5 nlp.symm nll
    rwa [show 1 + 2 * i + 1 + 1 = 1 + 2 * (i + 1) by omega] at this
  · rintro σ' H2 ⟨L2, B2, k2, r, vs, x2, x3, er, hv, hP, rfl⟩
    have len := headsL_len er
    walk_at "zz"
    exact q r (by rw [eh]; exact er) _ _ _ B2 (by rw [len]; exact L2) hlh hv hP

theorem rd_own_numbers {Z : Adr} (T : Top Z) {a0 a1 a2 a3 : V} {H : Hp} {Q : VK} {E : XK} (h : q_own_numbers Z a0 a1 a2 a3 H Q E) : t_own_numbers Z (fun cls d _ H => E cls d H) ⟨fun _ H' => Q .non H', Q, fun _ _ => False, fun _ _ => False⟩ [some a0, some a1, some a2, some a3, none, none] H := by
  unfold t_own_numbers
  obtain ⟨p, dx, l, xs, k, lh, hs, vs, bx, kind, rfl, rfl, rfl, rfl, hkl, L, hlh, hP, q, qe⟩ := h
  have nlp : lh ≠ p := L.lst hlh
  have hp := L.o
  have fin : ∀ {H1 : Hp} {ns : List Int} {m : Int} {j : Nat}, But p H H1 → LookAt Z H1 p dx l xs j → ownP xs hs bx kind k = .ok (ns, m, j) → ∀ tn, H1 tn = none → ∀ t, upd H1 tn (.tup (ns.map V.int)) t = none → Q (.ref t) (upd (upd H1 tn (.tup (ns.map V.int))) t (.tup [.ref tn, .int m])) := by
    intro H1 ns m j B L1 eo tn htn t ht
    exact q _ eo t tn _ ((B.new htn).new ht) ((L1.new htn).new ht) upd_same (up_new ht upd_same)
  walk_at "zz"
  refine s_ifd (fun c0 => ?_) (fun c0 => ?_)
  · skip
    walk_at "zz"
    refine cl_Look_due ⟨p, dx, l, xs, k, rfl, hkl, L, fun v e1 H1 B1 L1 => ?_, fun er ee => qe er (by unfold ownP; rw [if_pos c0]; exact bindR_of_err ee)⟩
    walk_at "zz"
    intro tn htn
    walk_at "zz"
    intro t ht
    exact fin (ns := [v]) B1 L1 (by unfold ownP; rw [if_pos c0]; exact bindR_of e1) tn htn t ht
  walk_at "zz"
  refine s_ifd (fun c1 => ?_) (fun c1 => ?_)
  · skip
    walk_at "zz"
    refine cl_Look_within ⟨p, dx, l, xs, k, _, _, rfl, rfl, rfl, hkl, L, fun v e1 H1 B1 L1 => ?_, fun er ee => qe er (by unfold ownP; rw [if_neg c0, if_pos c1]; exact bindR_of_err ee)⟩
    walk_at "zz"
    intro tn htn
    walk_at "zz"
    intro t ht
    exact fin (ns := [v]) B1 L1 (by unfold ownP; rw [if_neg c0, if_pos c1]; exact bindR_of e1) tn htn t ht
  walk_at "zz"
  refine s_ifd (fun c2 => ?_) (fun c2 => ?_)
  · skip
    walk_at "zz"
    refine cl_Look_within ⟨p, dx, l, xs, k, _, _, rfl, rfl, rfl, hkl, L, fun v e1 H1 B1 L1 => ?_, fun er ee => qe er (by unfold ownP; rw [if_neg c0, if_neg c1, if_pos c2]; exact bindR_of_err ee)⟩
    walk_at "zz"
    intro tn htn
    walk_at "zz"
    intro t ht
    exact fin (ns := [v]) B1 L1 (by unfold ownP; rw [if_neg c0, if_neg c1, if_pos c2]; exact bindR_of e1) tn htn t ht
  walk_at "zz"
  refine s_ifd (fun c3 => ?_) (fun c3 => ?_)
  · skip
    walk_at "zz"
    refine cl_Look_within ⟨p, dx, l, xs, k, _, _, rfl, rfl, rfl, hkl, L, fun v e1 H1 B1 L1 => ?_, fun er ee => qe er (by unfold ownP; rw [if_neg c0, if_neg c1, if_neg c2, if_pos c3]; exact bindR_of_err ee)⟩
    walk_at "zz"
    intro tn htn
    walk_at "zz"
    intro t ht
    exact fin (ns := [v]) B1 L1 (by unfold ownP; rw [if_neg c0, if_neg c1, if_neg c2, if_pos c3]; exact bindR_of e1) tn htn t ht
  walk_at "zz"
  refine s_ifd (fun c4 => ?_) (fun c4 => ?_)
  · skip
    walk_at "zz"
    refine cl_Look_within ⟨p, dx, l, xs, k, _, _, rfl, rfl, rfl, hkl, L, fun v e1 H1 B1 L1 => ?_, fun er ee => qe er (by unfold ownP; rw [if_neg c0, if_neg c1, if_neg c2, if_neg c3, if_pos c4]; exact bindR_of_err ee)⟩
    walk_at "zz"
    intro tn htn
    walk_at "zz"
    intro t ht
    exact fin (ns := [v]) B1 L1 (by unfold ownP; rw [if_neg c0, if_neg c1, if_neg c2, if_neg c3, if_pos c4]; exact bindR_of e1) tn htn t ht
  walk_at "zz"
  refine s_ifd (fun c5 => ?_) (fun c5 => ?_)
  · skip
    walk_at "zz"
    rw [hP.len]
    refine cl_Look_within ⟨p, dx, l, xs, k, _, _, rfl, rfl, rfl, hkl, L, fun v e1 H1 B1 L1 => ?_, fun er ee => qe er (by unfold ownP; rw [if_neg c0, if_neg c1, if_neg c2, if_neg c3, if_neg c4, if_pos c5]; exact bindR_of_err ee)⟩
    obtain ⟨_, v0, v1⟩ := withinP_ok e1
    have hlh1 := B1.rd nlp hlh
    have hP1 := hP.mono (L.tups B1)
    have hv : v.toNat < hs.length := by omega
    have eh : hs[v.toNat]? = some (hs.getD v.toNat (0, 0)) := by rw [List.getD_eq_getElem?_getD, List.getElem?_eq_getElem hv]; rfl
    obtain ⟨t6, et, ht6⟩ := hP1.get eh
    walk_at "zz"
    intro tn htn
    walk_at "zz"
    refine s_ix_l (SqL.of (up_new htn hlh1)) (at_of (j := v.toNat) (v := .ref t6) (by omega) et) ?_
    walk_at "zz"
    refine s_ix_t (SqT.of (up_new htn ht6)) (v := .int (hs.getD v.toNat (0, 0)).1) rfl ?_
    walk_at "zz"
    intro t ht
    exact fin (ns := [v]) B1 L1 (by unfold ownP; rw [if_neg c0, if_neg c1, if_neg c2, if_neg c3, if_neg c4, if_pos c5]; exact bindR_of e1) tn htn t ht
  walk_at "zz"
  refine s_ifd (fun c6 => ?_) (fun c6 => ?_)
  · skip
    walk_at "zz"
    intro tn htn
    walk_at "zz"
    intro t ht
    exact fin (ns := []) (But.refl p H) L (by unfold ownP; rw [if_neg c0, if_neg c1, if_neg c2, if_neg c3, if_neg c4, if_neg c5, if_pos c6]) tn htn t ht
  walk_at "zz"
  intro tn htn
  walk_at "zz"
  refine cl_parts_of ⟨kind, rfl, fun H2 S2 => ?_⟩
  walk_at "zz"
  intro t ht
  exact q ([], manyP kind, k) (by unfold ownP; rw [if_neg c0, if_neg c1, if_neg c2, if_neg c3, if_neg c4, if_neg c5, if_neg c6]) t tn _ ((((But.refl p H).new htn).trans (But.of S2)).new ht) (((L.new htn).same S2).new ht) upd_same (up_new ht (S2 _ _ upd_same))

theorem rd_node_in {Z : Adr} (T : Top Z) {n : Nat} {a0 a1 a2 a3 : V} {H : Hp} {Q : VK} {E : XK} (h : q_node_in Z (n + 1) a0 a1 a2 a3 H Q E) : t_node_in Z n (fun cls d _ H => E cls d H) ⟨fun _ H' => Q .non H', Q, fun _ _ => False, fun _ _ => False⟩ [some a0, some a1, some a2, some a3, none, none, none, none, none, none] H := by
  unfold t_node_in
  obtain ⟨p, dx, l, xs, k, lh, hs, vs, bx, d, f, rfl, rfl, rfl, rfl, hd, hf, hB, hkl, L, hlh, hP, q, qe⟩ := h
  have nlp : lh ≠ p := L.lst hlh
  have hp := L.o
  cases f with
  | zero =>
    walk_at "zz"
    refine s_ifdt (by omega) ?_
    refine s_raiseO ?_
    walk_at "zz"
    exact raise_NoSheet (Z := Z) (W := fun cls d _ H' => E cls d H') (σ := []) fun d' H' S x => qe ((k : Int), ("deep" : Str)) rfl d' H' (But.of S) x
  | succ f =>
  walk_at "zz"
  refine s_ifdf (by omega) ?_
  walk_at "zz"
  refine cl_Look_within ⟨p, dx, l, xs, k, 0, 19, rfl, rfl, rfl, hkl, L, fun kind e1 H1 B1 L1 => ?_, fun er ee => qe er (bindR_of_err ee)⟩
  have hlh1 := B1.rd nlp hlh
  have hP1 := hP.mono (L.tups B1)
  have hk1 := (List.getElem?_eq_some_iff.mp (withinP_ok e1).1).1
  walk_at "zz"
  refine cl_own_numbers ⟨p, dx, l, xs, k + 1, lh, hs, vs, bx, kind, rfl, rfl, rfl, rfl, hk1, L1, hlh1, hP1, fun o eo t tn H2 B2 L2 ht htn => ?_, fun er ee => (show ErrS Z p H er E from qe er (by unfold nodeP; rw [bindR_of e1]; exact bindR_of_err ee)).trans B1⟩
  have hlh2 := B2.rd nlp hlh1
  have hP2 := hP1.mono (L1.tups B2)
  have ole := ownP_le eo
  have step : nodeP xs hs bx (f + 1) k = bindR (partsP (nodeP xs hs bx f) o.2.1.toNat o.2.2) fun p => .ok (.mk kind k o.1 p.1, p.2) := by
    unfold nodeP
    rw [bindR_of e1, bindR_of eo]
  refine s_gun_t (SqT.of ht) rfl ?_
  walk_at "zz"
  intro lp hlp
  have nlp2 : lp ≠ p := (ne_of_none L2.o hlp).symm
  have nll : l ≠ lp := ne_of_none L2.n hlp
  have ov := ownP_most hB eo
  walk_at "zz"
  refine loop_range (fun i σ' H' => ∃ (r : List Nd × Nat) (ws : List V) (x : Option V), LookAt Z H' p dx l xs r.2 ∧ But p H H' ∧ r.2 ≤ xs.length ∧ partsP (nodeP xs hs bx f) i o.2.2 = .ok r ∧ H' lp = some (.lst ws) ∧ NodesAt H' r.1 ws ∧ H' lh = some (.lst vs) ∧ PairsAt H' hs vs ∧ H' tn = some (.tup (o.1.map V.int)) ∧
    σ' = [some (.ref p), some (.ref lh), some (.int bx), some (.int d), some (.int k), some (.int kind), some (.ref tn), some (.int o.2.1), some (.ref lp), x]) ⟨([], o.2.2), [], _, L2.new hlp, (B1.trans B2).new hlp, by show o.2.2 ≤ _; omega, rfl, upd_same, rfl, up_new hlp hlh2, hP2.mono (TupS.new hlp), up_new hlp htn, rfl⟩ ?_ ?_
  · rintro i σ' H3 hi ⟨r, ws, x, L3, B3, hk3, er, hw, hN, hlh3, hP3, htn3, rfl⟩
    walk_at "zz"
    refine cl_node_in ⟨p, dx, l, xs, r.2, lh, hs, vs, bx, d + 1, f, rfl, rfl, rfl, rfl, by omega, by omega, hB, hk3, L3, hlh3, hP3, fun b eb v H4 B4 L4 hv4 => ?_,
      fun e ee => (show ErrS Z p H e E from qe e (by rw [step]; refine bindR_of_err (partsP_err (i := i + 1) ?_ hi); unfold partsP; rw [bindR_of er]; exact bindR_of_err ee)).trans B3⟩
    have T4 := L3.tups B4
    have hw4 := B4.rd nlp2 hw
    have nlh : lh ≠ lp := ne_of_none hlh2 hlp
    have er2 : partsP (nodeP xs hs bx f) (i + 1) o.2.2 = .ok (r.1 ++ [b.1], b.2) := by unfold partsP; rw [bindR_of er, bindR_of eb]
    walk_at "zz"
    refine c_append hw4 (small1000 (by rw [hN.len, partsP_len er]; omega)) fun H5 B5 h5 => ?_
    have T5 : TupS H4 H5 := TupS.but B5 hw4 fun ys e => by cases e
    walk_at "zz"
    exact ⟨_, _, _, L4.own B5 nlp2.symm nll, (B3.trans B4).own B5 ((B1.trans B2).none nlp2 hlp), (nodeP_le eb).2, er2, h5, ((hN.mono T4).mono T5).app (hv4.mono T5), B5.rd nlh (B4.rd nlp hlh3), (hP3.mono T4).mono T5, T5 _ _ (T4 _ _ htn3), rfl⟩
  · rintro σ' H3 ⟨r, ws, x, L3, B3, hk3, er, hw, hN, hlh3, hP3, htn3, rfl⟩
    walk_at "zz"
    intro tp htp
    walk_at "zz"
    intro t2 ht2
    refine q (.mk kind k o.1 r.1, r.2) (by rw [step, bindR_of er]) _ _ ((B3.new htp).new ht2) ((L3.new htp).new ht2) ⟨t2, tn, tp, ws, rfl, upd_same, up_new ht2 (up_new htp htn3), up_new ht2 upd_same, (hN.mono (TupS.new htp)).mono (TupS.new ht2)⟩

theorem rd_functions {Z : Adr} (T : Top Z) {a0 : V} {H : Hp} {Q : VK} {E : XK} (h : q_functions Z a0 H Q E) : t_functions Z (fun cls d _ H => E cls d H) ⟨fun _ H' => Q .non H', Q, fun _ _ => False, fun _ _ => False⟩ [some a0, none, none, none, none, none] H := by
  unfold t_functions
  obtain ⟨ls, xs, rfl, hsq, q, qe⟩ := h
  walk_at "zz"
  intro p dx hp hdx hne
  have hp' : upd H dx (.own p) p = none := by rw [upd_ne (Ne.symm hne)]; exact hp
  have S0 : Same H (upd (upd H dx (.own p)) p (.ins Z.c_Look dx [])) := (same_new hdx).trans (same_new hp')
  refine cl_Look_init ⟨p, dx, ls, xs, rfl, rfl, upd_same, S0.seq hsq, fun l H1 B1 L1 hl => ⟨rfl, ?_⟩⟩
  have S1 : Same H H1 := same_own S0 B1 hp
  have err : ∀ {H2 : Hp} er, Same H H2 → funsP xs = .error er → ErrS Z p H2 er E := fun {H2} er S2 e d H3 B3 x => qe er e d H3 (same_own S2 B3 hp) x
  walk_at "zz"
  refine cl_heads_in ⟨p, dx, l, xs, rfl, L1, fun hs eh lh vs H2 B2 L2 hlh1 hlh hP => ?_, fun er ee => err er S1 (bindR_of_err ee)⟩
  obtain ⟨n1, n2, e0, eL⟩ := headsP_ok eh
  have eF : funsP xs = bindR (bodiesP xs hs hs.length (1 + 2 * hs.length)) fun a => if a.2 < xs.length then .error (a.2, "over") else .ok (hs, a.1) := by unfold funsP; rw [bindR_of eh]
  have S2 : Same H H2 := same_own S1 B2 hp
  have nlp : lh ≠ p := L2.lst hlh
  have hk2 : 1 + 2 * hs.length ≤ xs.length := by
    have hi : hs.length - 1 < hs.length := by omega
    have := (heads_at eL (List.getElem?_eq_getElem hi)).2
    have := (List.getElem?_eq_some_iff.mp this).1
    omega
  walk_at "zz"
  intro lf hlf
  have nfp : lf ≠ p := (ne_of_none L2.o hlf).symm
  have nfl : l ≠ lf := ne_of_none L2.n hlf
  have nfh : lh ≠ lf := ne_of_none hlh hlf
  have hlf0 : H lf = none := S2.free hlf
  walk_at "zz"
  refine loop_list vs (fun i σ' H' => ∃ (r : List Nd × Nat) (ws : List V) (x4 x5 : Option V), LookAt Z H' p dx l xs r.2 ∧ Same H H' ∧ r.2 ≤ xs.length ∧ bodiesP xs hs i (1 + 2 * hs.length) = .ok r ∧ H' lf = some (.lst ws) ∧ FunsAt H' (hs.take i) r.1 ws ∧ H' lh = some (.lst vs) ∧ PairsAt H' hs vs ∧
    σ' = [some (.ref ls), some (.ref p), some (.ref lh), some (.ref lf), x4, x5]) ⟨([], 1 + 2 * hs.length), [], _, _, L2.new hlf, S2.trans (same_new hlf), hk2, rfl, upd_same, rfl, up_new hlf hlh, hP.mono (TupS.new hlf), rfl⟩ (fun i σ' H' hi ⟨r, ws, x4, x5, a1, a2, a3, a4, a5, a6, a7, a8, a9⟩ => SqL.of a7) ?_ ?_
  · rintro i v σ' H3 hv ⟨r, ws, x4, x5, L3, S3, hk3, er, hw, hF, hlh3, hP3, rfl⟩
    have hi : i < hs.length := by
      have := (List.getElem?_eq_some_iff.mp hv).1
      rwa [hP.len] at this
    have ehi : hs[i]? = some hs[i] := List.getElem?_eq_getElem hi
    obtain ⟨t, et, ht⟩ := hP3.get ehi
    rw [hv] at et
    cases et
    have ed : hs.getD i (0, 0) = hs[i] := by rw [List.getD_eq_getElem?_getD, ehi]; rfl
    refine s_gun_t (SqT.of ht) rfl ?_
    walk_at "zz"
    refine cl_node_in ⟨p, dx, l, xs, r.2, lh, hs, vs, _, 1, 10, rfl, rfl, rfl, rfl, by omega, by omega, fun h hh => by have := headsL_all eL h hh; exact ⟨by omega, by omega⟩, hk3, L3, hlh3, hP3, fun b ebb vb H4 B4 L4 hvb => ?_,
      fun e ee => err e S3 (by rw [eF]; refine bindR_of_err (bodiesP_err (i := i + 1) ?_ hi); unfold bodiesP; rw [bindR_of er, ed]; exact bindR_of_err ee)⟩
    have er2 : bodiesP xs hs (i + 1) (1 + 2 * hs.length) = .ok (r.1 ++ [b.1], b.2) := by unfold bodiesP; rw [bindR_of er, ed, bindR_of ebb]
    have T4 := L3.tups B4
    have hw4 := B4.rd nfp hw
    walk_at "zz"
    intro t2 ht2
    walk_at "zz"
    have hw5 := up_new (u := .tup [.int hs[i].1, .int hs[i].2, vb]) ht2 hw4
    refine c_append hw5 (small1000 (by rw [hF.len.1, List.length_take]; omega)) fun H5 B5 h5 => ?_
    have T5 : TupS _ H5 := TupS.but B5 hw5 fun ys e => by cases e
    have TT := (T4.trans (TupS.new (o := .tup [.int hs[i].1, .int hs[i].2, vb]) ht2)).trans T5
    walk_at "zz"
    refine ⟨_, _, _, _, (L4.new ht2).own B5 nfp.symm nfl, same_own ((same_own S3 B4 hp).trans (same_new ht2)) B5 hlf0, (nodeP_le ebb).2, er2, h5, ?_, B5.rd nfh (up_new ht2 (B4.rd nlp hlh3)), hP3.mono TT, rfl⟩
    rw [List.take_succ_eq_append_getElem hi]
    exact (hF.mono TT).app (T5 _ _ upd_same) (hvb.mono ((TupS.new ht2).trans T5))
  · rintro σ' H3 ⟨r, ws, x4, x5, L3, S3, hk3, er, hw, hF, hlh3, hP3, rfl⟩
    rw [hP.len] at er hF
    rw [List.take_length] at hF
    have hp3 := L3.o
    have hl3 := L3.n
    walk_at "zz"
    rw [List.length_map]
    refine s_ifd (fun c => ?_) (fun c => ?_)
    · refine s_raiseO ?_
      walk_at "zz"
      exact raise_NoSheet (Z := Z) (W := fun cls d _ H' => E cls d H') (σ := []) fun d H' S x => err _ S3 (by rw [eF, bindR_of er, if_pos (by omega)]) d H' (But.of S) x
    · walk_at "zz"
      exact q hs r.1 (by rw [eF, bindR_of er, if_neg (by omega)]) _ _ _ S3 hlf0 hw hF

theorem rd_wrong {Z : Adr} (T : Top Z) {a0 : V} {H : Hp} {Q : VK} {E : XK} (h : q_wrong Z a0 H Q E) : t_wrong Z (fun cls d _ H => E cls d H) ⟨fun _ H' => Q .non H', Q, fun _ _ => False, fun _ _ => False⟩ [some a0, none, none] H := by
  unfold t_wrong
  obtain ⟨ls, xs, rfl, hsq, q, qe⟩ := h
  walk_at "zz"
  refine s_tryAs ?_
  walk_at "zz"
  refine cl_functions ⟨ls, xs, rfl, hsq, fun hs bs e lf vs H1 S1 _ _ _ => ?_, fun er ee d H1 S1 x => ⟨true, T.ex_NoSheet_NoSheet, fun _ a ha => ?_, fun z => by cases z⟩⟩
  · walk_at "zz"
    exact q _ e _ S1
  · walk_at "zz"
    refine s_xf ?_
    walk_at "zz"
    refine ⟨rfl, rfl, d, _, .int er.1, rfl, x, by rw [lk_ne (by decide +kernel), lk_eq], ?_⟩
    refine s_xf ?_
    walk_at "zz"
    refine ⟨rfl, rfl, d, _, .str er.2, rfl, x, lk_eq, ?_⟩
    walk_at "zz"
    intro t ht
    walk_at "zz"
    exact qe er ee t _ (S1.trans (same_new ht)) upd_same

theorem rd_nodes_in {Z : Adr} (T : Top Z) {n : Nat} {a0 : V} {H : Hp} {Q : VK} {E : XK} (h : q_nodes_in Z (n + 1) a0 H Q E) : t_nodes_in Z n (fun cls d _ H => E cls d H) ⟨fun _ H' => Q .non H', Q, fun _ _ => False, fun _ _ => False⟩ [some a0, none, none] H := by
  unfold t_nodes_in
  obtain ⟨xs, hs, bx, k, f, r, e, hN, hf, hlen, q⟩ := h
  obtain ⟨f, rfl⟩ : ∃ g, f = g + 1 := ⟨f - 1, by have := nodeP_dep e; omega⟩
  obtain ⟨kind, o, pp, e1, k0, k1, eo, ep, rfl⟩ := nodeP_ok e
  obtain ⟨t, tn, tp, vs, rfl, h1, h2, h3, h4⟩ := hN
  have hNode : NodeAt H (.mk kind k o.1 pp.1) (.ref t) := ⟨t, tn, tp, vs, rfl, h1, h2, h3, h4⟩
  walk_at "zz"
  intro l hl
  walk_at "zz"
  refine s_ix_t (SqT.of (up_new hl h1)) (v := .ref tp) rfl ?_
  walk_at "zz"
  have hall := (partsP_le (xs := xs) (fun k r => nodeP_le (f := f) (k := k) (r := r)) ep)
  refine loop_tup vs (fun i σ' H' => ∃ (r : List Nd × Nat) (ws : List V) (x : Option V), Same H H' ∧ partsP (nodeP xs hs bx f) i o.2.2 = .ok r ∧ H' l = some (.lst ws) ∧ NodesAt H' (.mk kind k o.1 pp.1 :: pres r.1) ws ∧ σ' = [some (.ref t), some (.ref l), x])
    ⟨([], o.2.2), [.ref t], none, same_new hl, rfl, upd_same, ⟨.ref t, [], rfl, hNode.mono (TupS.new hl), rfl⟩, rfl⟩ (fun i σ' H' hi ⟨r, ws, x, S, _⟩ => SqT.of (S _ _ h3)) ?_ ?_
  · rintro i v σ' H2 hv ⟨r, ws, x, S2, er, hw, hN2, rfl⟩
    have hi : i < pp.1.length := by
      have := (List.getElem?_eq_some_iff.mp hv).1
      rwa [h4.len] at this
    have hpl := partsP_len ep
    obtain ⟨r2, er2⟩ := partsP_pre ep (i := i + 1) (by omega)
    obtain ⟨b, eb, rfl⟩ := partsP_step er2 er
    obtain ⟨nd, end_, hnd⟩ := h4.get hv
    rw [partsP_get er eb ep (by omega)] at end_
    cases end_
    have c1 := (parts_cov (xs := xs) (fun j r => node_cov (f := f) (k := j) (r := r)) er).len
    have c2 := (node_cov eb).len
    have c3 := (nodeP_le eb).2
    walk_at "zz"
    refine cl_nodes_in ⟨xs, hs, bx, r.2, f, b, eb, hnd.mono (TupS.of S2), by omega, hlen, fun l3 us H3 S3 hl30 hl3 hu => ?_⟩
    have hw3 := S3 _ _ hw
    have nl3 : l3 ≠ l := fun e => by subst e; rw [hl30] at hw; cases hw
    walk_at "zz"
    refine c_extend hw3 hl3 (by
      rw [hN2.len, hu.len, List.length_cons]
      have : 900000 ≤ sizeLine := by decide
      omega) fun H4 B4 h4' => ?_
    have T4 : TupS H3 H4 := TupS.but B4 hw3 fun ys e => by cases e
    walk_at "zz"
    refine ⟨_, _, _, same_own (S2.trans S3) B4 hl, er2, h4', ?_, rfl⟩
    have := ((hN2.mono (TupS.of S3)).mono T4).append (hu.mono T4)
    show NodesAt H4 (_ :: pres (r.1 ++ [b.1])) _
    rw [pres_app, pres_one]
    exact this
  · rintro σ' H2 ⟨r, ws, x, S2, er, hw, hN2, rfl⟩
    rw [h4.len, partsP_len ep, ep] at er
    cases er
    walk_at "zz"
    exact q l ws H2 S2 hl hw hN2

theorem rd_nodes {Z : Adr} (T : Top Z) {a0 : V} {H : Hp} {Q : VK} {E : XK} (h : q_nodes Z a0 H Q E) : t_nodes Z (fun cls d _ H => E cls d H) ⟨fun _ H' => Q .non H', Q, fun _ _ => False, fun _ _ => False⟩ [some a0, none, none, none, none] H := by
  unfold t_nodes
  obtain ⟨ls, xs, rfl, hsq, hlen, q, qe⟩ := h
  walk_at "zz"
  intro l hl
  walk_at "zz"
  refine cl_functions ⟨ls, xs, rfl, (same_new hl).seq hsq, fun hs bs e lf vs H1 S1 hlf0 hlf hF => ?_, fun er ee d H1 S1 x => qe er ee d H1 ((same_new hl).trans S1) x⟩
  obtain ⟨ke, eh, eb, hke⟩ := funsP_ok e
  have nfl : l ≠ lf := fun e => by subst e; rw [upd_same] at hlf0; cases hlf0
  have Sl : Same H H1 := (same_new hl).trans S1
  have hlf0' : H lf = none := by rw [upd_ne nfl.symm] at hlf0; exact hlf0
  walk_at "zz"
  refine loop_list vs (fun i σ' H' => ∃ (r : List Nd × Nat) (ws : List V) (x2 x3 x4 : Option V), Same H H' ∧ bodiesP xs hs i (1 + 2 * hs.length) = .ok r ∧ H' l = some (.lst ws) ∧ NodesAt H' (pres r.1) ws ∧ H' lf = some (.lst vs) ∧ FunsAt H' hs bs vs ∧ σ' = [some (.ref ls), some (.ref l), x2, x3, x4])
    ⟨([], 1 + 2 * hs.length), [], none, none, none, Sl, rfl, S1 _ _ upd_same, rfl, hlf, hF, rfl⟩ (fun i σ' H' hi ⟨r, ws, x2, x3, x4, _, _, _, _, a, _⟩ => SqL.of a) ?_ ?_
  · rintro i v σ' H2 hv ⟨r, ws, x2, x3, x4, S2, er, hw, hN2, hlf2, hF2, rfl⟩
    have hi : i < hs.length := by
      have := (List.getElem?_eq_some_iff.mp hv).1
      rwa [hF.len.1] at this
    obtain ⟨t, vb, hh, b0, rfl, e3, e4, e5⟩ := hF2.nodes hv
    obtain ⟨r2, er2⟩ := bodiesP_pre eb (i := i + 1) hi
    obtain ⟨b, ebb, rfl⟩ := bodiesP_step er2 er
    rw [bodiesP_get er ebb eb hi] at e3
    cases e3
    have c1 := (bodies_cov er).len
    have c2 := (node_cov ebb).len
    have c3 := (nodeP_le ebb).2
    refine s_gun_t (SqT.of e4) rfl ?_
    walk_at "zz"
    refine cl_nodes_in ⟨xs, hs, _, r.2, 10, b, ebb, e5, by omega, hlen, fun l3 us H3 S3 hl30 hl3 hu => ?_⟩
    have hw3 := S3 _ _ hw
    walk_at "zz"
    refine c_extend hw3 hl3 (by
      rw [hN2.len, hu.len]
      have : 900000 ≤ sizeLine := by decide
      omega) fun H4 B4 h4' => ?_
    have T4 : TupS H3 H4 := TupS.but B4 hw3 fun ys e => by cases e
    walk_at "zz"
    refine ⟨_, _, _, _, _, same_own (S2.trans S3) B4 hl, er2, h4', ?_, B4.rd nfl.symm (S3 _ _ hlf2), (hF2.mono (TupS.of S3)).mono T4, rfl⟩
    have := ((hN2.mono (TupS.of S3)).mono T4).append (hu.mono T4)
    show NodesAt H4 (pres (r.1 ++ [b.1])) _
    rw [pres_app, pres_one]
    exact this
  · rintro σ' H2 ⟨r, ws, x2, x3, x4, S2, er, hw, hN2, hlf2, hF2, rfl⟩
    rw [hF.len.1, eb] at er
    cases er
    walk_at "zz"
    exact q hs bs e l ws H2 S2 hl hw hN2

theorem rd_Lmixed {Z : Adr} (T : Top Z) {a0 a1 : V} {H : Hp} {Q : VK} {E : XK} (h : q_Lmixed Z a0 a1 H Q E) : t_Lmixed Z (fun cls d _ H => E cls d H) ⟨fun _ H' => Q .non H', Q, fun _ _ => False, fun _ _ => False⟩ [some a0, some a1, none, none] H := by
  unfold t_Lmixed
  obtain ⟨c, k, rfl, rfl, q⟩ := h
  walk_at "zz"
  repeat (refine s_mulp (by omega) ?_; walk_at "zz")
  exact q _

theorem rd_Ltake {Z : Adr} (T : Top Z) {a0 a1 : V} {H : Hp} {Q : VK} {E : XK} (h : q_Ltake Z a0 a1 H Q E) : t_Ltake Z (fun cls d _ H => E cls d H) ⟨fun _ H' => Q .non H', Q, fun _ _ => False, fun _ _ => False⟩ [some a0, some a1, none, none, none, none] H := by
  unfold t_Ltake
  obtain ⟨p, m, rfl, rfl, hm, hm2, ⟨sa, ns, k, l, hS, hk, hl, hp⟩, q⟩ := h
  have hsq := hS.sq
  walk_at "zz"
  refine s_cut (fun σ' H' => ∃ (k' l' : Int) (x2 x3 x4 : Option V), But p H H' ∧ H' p = some (.lst [.ref sa, .int k', .int l']) ∧ 0 ≤ k' ∧ 0 ≤ l' ∧ σ' = [some (.ref p), some (.int m), x2, x3, x4, none]) ?_ ?_
  · walk_at "zz"
    refine s_ix_l (SqL.of hp) (v := .int l) rfl ?_
    walk_at "zz"
    refine s_ifd (fun c => ?_) (fun c => ?_)
    · walk_at "zz"
      refine s_ix_l (SqL.of hp) (v := .ref sa) rfl ?_
      walk_at "zz"
      refine s_ix_l (SqL.of hp) (v := .int k) rfl ?_
      walk_at "zz"
      refine c_setL 1 [.ref sa, .int (k + 1), .int l] hp rfl rfl fun H1 B1 hp1 => ?_
      have hS1 := hS.but B1
      have hsq1 := hS1.sq
      walk_at "zz"
      refine s_cut (fun σ' H' => H' = H1 ∧ ∃ c : Int, σ' = [some (.ref p), some (.int m), some (.ref sa), some (.int k), some (.int c), none]) ?_ ?_
      · walk_at "zz"
        rw [List.length_map]
        refine s_ifd (fun c => ?_) (fun c => ?_)
        · walk_at "zz"
          obtain ⟨w, hw, ew⟩ := at_ints ns hk c
          refine s_ix_l hsq1 ew ?_
          walk_at "zz"
          exact ⟨rfl, _, rfl⟩
        · walk_at "zz"
          rw [List.length_map]
          refine s_ifd (fun c => ?_) (fun c => ?_)
          · walk_at "zz"
            rw [List.length_map]
            refine s_modp c ?_
            walk_at "zz"
            obtain ⟨w, hw, ew⟩ := at_ints ns (i := k % ns.length) (Int.emod_nonneg _ (by omega)) (Int.emod_lt_of_pos _ c)
            refine s_ix_l hsq1 ew ?_
            walk_at "zz"
            exact ⟨rfl, _, rfl⟩
          · walk_at "zz"
            exact ⟨rfl, _, rfl⟩
      · rintro σ' H' ⟨rfl, c, rfl⟩
        walk_at "zz"
        refine s_ifd (fun c1 => ?_) (fun c1 => ?_)
        · walk_at "zz"
          refine cl_Lmixed ⟨c, k, rfl, rfl, fun z => ?_⟩
          walk_at "zz"
          exact q _ _ (Int.emod_nonneg _ (by omega)) (Int.emod_lt_of_pos _ hm) ⟨sa, ns, k + 1, l, hS1, by omega, hl, hp1⟩ B1
        · walk_at "zz"
          refine c_setL 2 [.ref sa, .int (k + 1), .int (if c < 0 then -c else c)] hp1 rfl rfl fun H2 B2 hp2 => ?_
          walk_at "zz"
          exact ⟨k + 1, _, _, _, _, B1.trans B2, hp2, by omega, by split <;> omega, rfl⟩
    · walk_at "zz"
      exact ⟨k, l, _, _, _, But.refl _ _, hp, hk, hl, rfl⟩
  · rintro σ' H' ⟨k', l', x2, x3, x4, B, hp', hk', hl', rfl⟩
    walk_at "zz"
    refine s_ix_l (SqL.of hp') (v := .int l') rfl ?_
    walk_at "zz"
    refine s_ix_l (SqL.of hp') (v := .int l') rfl ?_
    walk_at "zz"
    refine s_fdvq ⟨hm, hm2⟩ ?_
    walk_at "zz"
    refine c_setL 2 [.ref sa, .int k', .int (l' / m)] hp' rfl rfl fun H2 B2 hp2 => ?_
    walk_at "zz"
    exact q _ _ (Int.emod_nonneg _ (by omega)) (Int.emod_lt_of_pos _ hm) ⟨sa, ns, k', l' / m, hS.but (B.trans B2), hk', Int.ediv_nonneg hl' (by omega), hp2⟩ (B.trans B2)

theorem rd_Lheads {Z : Adr} (T : Top Z) {a0 : V} {H : Hp} {Q : VK} {E : XK} (h : q_Lheads Z a0 H Q E) : t_Lheads Z (fun cls d _ H => E cls d H) ⟨fun _ H' => Q .non H', Q, fun _ _ => False, fun _ _ => False⟩ [some a0, none, none, none, none] H := by
  unfold t_Lheads
  obtain ⟨p, rfl, hSt, q⟩ := h
  walk_at "zz"
  refine cl_Ltake ⟨p, 4, rfl, rfl, by omega, by omega, hSt, fun v H1 v0 v1 S1 B1 => ?_⟩
  walk_at "zz"
  refine s_cut (fun σ' H' => ∃ m : Int, 1 ≤ m ∧ m ≤ 16 ∧ St3 Z.K H' p ∧ But p H H' ∧ σ' = [some (.ref p), some (.int m), none, none, none]) ?_ ?_
  · walk_at "zz"
    refine cl_Ltake ⟨p, 8, rfl, rfl, by omega, by omega, S1, fun v2 H2 v20 v21 S2 B2 => ?_⟩
    walk_at "zz"
    refine s_ifd (fun c => ?_) (fun c => ?_)
    · walk_at "zz"
      refine cl_Ltake ⟨p, 16, rfl, rfl, by omega, by omega, S2, fun v3 H3 v30 v31 S3 B3 => ?_⟩
      walk_at "zz"
      exact ⟨1 + v3, by omega, by omega, S3, (B1.trans B2).trans B3, rfl⟩
    · walk_at "zz"
      exact ⟨1 + v, by omega, by omega, S2, B1.trans B2, rfl⟩
  · rintro σ' H2 ⟨m, m0, m1, S2, B2, rfl⟩
    walk_at "zz"
    intro lh hlh
    have nlp : lh ≠ p := S2.ne hlh
    walk_at "zz"
    refine loop_range (fun i σ' H' => ∃ (hs : List (Int × Int)) (vs : List V) (x3 x4 : Option V), hs.length = i ∧ (∀ (i : Nat) (h : Int × Int), hs[i]? = some h → 0 ≤ h.1 ∧ h.1 ≤ (if 0 < i then 4 else 0) ∧ h.1 ≤ h.2 ∧ h.2 ≤ 12) ∧ H' lh = some (.lst vs) ∧ PairsAt H' hs vs ∧ St3 Z.K H' p ∧ But p H H' ∧ σ' = [some (.ref p), some (.int m), some (.ref lh), x3, x4])
      ⟨[], [], _, _, rfl, fun i h e => by simp at e, upd_same, rfl, S2.new hlh, B2.new hlh, rfl⟩ ?_ ?_
    · rintro i σ' H3 hi ⟨hs, vs, x3, x4, hl, hok, hv, hP, S3, B3, rfl⟩
      walk_at "zz"
      refine cl_Ltake ⟨p, 5, rfl, rfl, by omega, by omega, S3, fun v4 H4 v40 v41 S4 B4 => ?_⟩
      walk_at "zz"
      have hpar : ∃ pa : Int, v4 * (if decide (0 < 0 + (i : Int)) = true then 1 else 0) = pa ∧ 0 ≤ pa ∧ pa ≤ (if 0 < i then 4 else 0) := by
        by_cases c : 0 < i
        · rw [if_pos (decide_eq_true (by omega)), if_pos c]; exact ⟨_, rfl, by omega, by omega⟩
        · rw [if_neg (by simp; omega), if_neg c]; exact ⟨_, rfl, by omega, by omega⟩
      obtain ⟨pa, epa, pa0, pa1⟩ := hpar
      rw [epa]
      have pa4 : pa ≤ 4 := by split at pa1 <;> omega
      intro l4 hl4
      walk_at "zz"
      refine cl_Ltake ⟨p, 2, rfl, rfl, by omega, by omega, S4.new hl4, fun v5 H5 v50 v51 S5 B5 => ?_⟩
      have hl5 := B5.rd (S4.ne hl4) upd_same
      obtain ⟨w, hw, ew⟩ := at_ints [13 - pa, 4] (i := v5) v50 (by show v5 < 2; omega)
      have hw' : 1 ≤ w ∧ pa + w ≤ 13 := by simp at hw; omega
      refine s_ix_l (SqL.of hl5) ew ?_
      walk_at "zz"
      refine cl_Ltake ⟨p, w, rfl, rfl, by omega, by omega, S5, fun v6 H6 v60 v61 S6 B6 => ?_⟩
      have B36 : But p H3 H6 := ((B4.new hl4).trans B5).trans B6
      have T36 := S3.tups B36
      have hv6 := B36.rd nlp hv
      walk_at "zz"
      intro t ht
      walk_at "zz"
      refine c_append (up_new ht hv6) (small1000 (by rw [hP.len]; omega)) fun H7 B7 h7 => ?_
      have T7 : TupS _ H7 := TupS.but B7 (up_new (u := .tup [.int pa, .int (pa + v6)]) ht hv6) fun ys e => by cases e
      walk_at "zz"
      have hlh0 : H lh = none := B2.none nlp hlh
      refine ⟨hs ++ [(pa, pa + v6)], _, _, _, by rw [List.length_append, hl]; rfl, ?_, h7, ((hP.mono (T36.trans (TupS.new ht))).mono T7).app (T7 _ _ upd_same), (S6.new ht).but B7 nlp.symm, ((B3.trans B36).new ht).own B7 hlh0, rfl⟩
      intro j h hj
      by_cases c : j < hs.length
      · rw [List.getElem?_append_left c] at hj
        exact hok j h hj
      · rw [List.getElem?_append_right (by omega)] at hj
        have hz : j - hs.length = 0 := by
          have := (List.getElem?_eq_some_iff.mp hj).1
          simp at this
          omega
        rw [hz] at hj
        cases hj
        have : j = i := by omega
        subst this
        exact ⟨pa0, pa1, by show pa ≤ pa + v6; omega, by show pa + v6 ≤ 12; omega⟩
    · rintro σ' H3 ⟨hs, vs, x3, x4, hl, hok, hv, hP, S3, B3, rfl⟩
      walk_at "zz"
      exact q lh hs vs _ ⟨by omega, by omega, hok⟩ (B2.none nlp hlh) hv hP S3 B3

theorem rd_Lnumber {Z : Adr} (T : Top Z) {a0 : V} {H : Hp} {Q : VK} {E : XK} (h : q_Lnumber Z a0 H Q E) : t_Lnumber Z (fun cls d _ H => E cls d H) ⟨fun _ H' => Q .non H', Q, fun _ _ => False, fun _ _ => False⟩ [some a0, none] H := by
  unfold t_Lnumber
  obtain ⟨p, rfl, hSt, q⟩ := h
  walk_at "zz"
  refine cl_Ltake ⟨p, 6, rfl, rfl, by omega, by omega, hSt, fun v H1 v0 v1 S1 B1 => ?_⟩
  walk_at "zz"
  refine s_ifd (fun c => ?_) (fun c => ?_)
  · walk_at "zz"
    refine cl_Ltake ⟨p, 9, rfl, rfl, by omega, by omega, S1, fun v2 H2 v20 v21 S2 B2 => ?_⟩
    walk_at "zz"
    exact q _ _ (by omega) (by omega) S2 (B1.trans B2)
  walk_at "zz"
  refine s_ifd (fun c => ?_) (fun c => ?_)
  · walk_at "zz"
    refine cl_Ltake ⟨p, 400, rfl, rfl, by omega, by omega, S1, fun v2 H2 v20 v21 S2 B2 => ?_⟩
    walk_at "zz"
    exact q _ _ (by omega) (by omega) S2 (B1.trans B2)
  walk_at "zz"
  refine cl_Ltake ⟨p, _, rfl, rfl, by omega, by omega, S1, fun v2 H2 v20 v21 S2 B2 => ?_⟩
  walk_at "zz"
  exact q _ _ (by omega) (by omega) S2 (B1.trans B2)

theorem rd_Lleaf {Z : Adr} (T : Top Z) {a0 a1 : V} {H : Hp} {Q : VK} {E : XK} (h : q_Lleaf Z a0 a1 H Q E) : t_Lleaf Z (fun cls d _ H => E cls d H) ⟨fun _ H' => Q .non H', Q, fun _ _ => False, fun _ _ => False⟩ [some a0, some a1, none] H := by
  unfold t_Lleaf
  obtain ⟨p, bx, rfl, rfl, hb, hSt, q⟩ := h
  walk_at "zz"
  refine cl_Ltake ⟨p, 5, rfl, rfl, by omega, by omega, hSt, fun v H1 v0 v1 S1 B1 => ?_⟩
  have two : ∀ {H2 : Hp} (k x : Int), (∀ hs f, OkN hs bx (f + 1) (.mk k 0 [x] [])) → St3 Z.K H2 p → But p H H2 → ∀ l, H2 l = none → Q (.ref l) (upd H2 l (.lst [.int k, .int x])) := fun {H2} k x ok S2 B2 l hl =>
    q l (.mk k 0 [x] []) _ (B2.none (S2.ne hl) hl) upd_same ok (Nat.le_refl _) (S2.new hl) (B2.new hl)
  have last : tSeq (tIfS (tTest (tOp (rEqU Z.K) (tVar 2) (tC (.int 2)))) (tRet (tLst (tCons (tC (.int 19)) tNil))) tNext)
    (tRet (tLst (tCons (tC (.int 0)) (tCons (tCallS (sp_Lnumber Z) (WE (fun cls d _ H => E cls d H)) (tCons (tVar 0) tNil)) tNil)))) ⟨fun _ H' => Q .non H', Q, fun _ _ => False, fun _ _ => False⟩ [some (.ref p), some (.int bx), some (.int v)] H1 := by
    walk_at "zz"
    refine s_ifd (fun c => ?_) (fun c => ?_)
    · walk_at "zz"
      intro l hl
      exact q l (.mk 19 0 [] []) _ (B1.none (S1.ne hl) hl) upd_same (fun hs f => ⟨by omega, by omega, .inr (.inr (.inr (.inr (.inr (.inr ⟨by omega, rfl, rfl⟩))))), fun p hp => by cases hp⟩) (Nat.le_succ _) (S1.new hl) (B1.new hl)
    · walk_at "zz"
      refine cl_Lnumber ⟨p, rfl, S1, fun x H2 _ _ S2 B2 => ?_⟩
      walk_at "zz"
      exact two 0 x (fun hs f => ⟨by omega, by omega, .inl ⟨rfl, rfl, x, rfl⟩, fun p hp => by cases hp⟩) S2 (B1.trans B2)
  walk_at "zz"
  refine s_ifd (fun c => ?_) (fun c => ?_)
  · walk_at "zz"
    refine s_ifd (fun c2 => ?_) (fun c2 => ?_)
    · walk_at "zz"
      refine cl_Ltake ⟨p, bx, rfl, rfl, c2, hb, S1, fun v2 H2 v20 v21 S2 B2 => ?_⟩
      walk_at "zz"
      exact two 1 v2 (fun hs f => ⟨by omega, by omega, .inr (.inl ⟨.inl ⟨rfl, rfl⟩, v2, rfl, v20, v21⟩), fun p hp => by cases hp⟩) S2 (B1.trans B2)
    · exact last
  · refine s_iff ?_
    exact last

theorem rd_Lhead {Z : Adr} (T : Top Z) {a0 a1 a2 : V} {H : Hp} {Q : VK} {E : XK} (h : q_Lhead Z a0 a1 a2 H Q E) : t_Lhead Z (fun cls d _ H => E cls d H) ⟨fun _ H' => Q .non H', Q, fun _ _ => False, fun _ _ => False⟩ [some a0, some a1, some a2, none, none, none] H := by
  unfold t_Lhead
  obtain ⟨p, lh, hs, vs, bx, rfl, rfl, rfl, hb, hok, hlh, hP, hSt, q⟩ := h
  walk_at "zz"
  refine cl_Ltake ⟨p, 20, rfl, rfl, by omega, by omega, hSt, fun v H1 v0 v1 S1 B1 => ?_⟩
  have nlp : lh ≠ p := by
    obtain ⟨sa, ns, k, l, _, _, _, hp⟩ := hSt
    intro e
    subst e
    rw [hp] at hlh
    cases hlh
    obtain ⟨n1, n2, n3⟩ := hok
    match hs, n1 with
    | h :: hs, _ =>
      obtain ⟨t, r, e, ht, h2⟩ := hP
      cases e
      match hs, h2 with
      | [], e => cases e
      | h :: hs, ⟨t, r, e, _, _⟩ => cases e
  have fin : ∀ {H2 : Hp} (own : List Int) (many : Int), ((∃ k, own = [k] ∧ k < 3) ∨ ∃ k ns m, own = k :: ns ∧ 0 ≤ k ∧ k ≤ 19 ∧ (k < 3 → ns.length = 1) ∧ ns.length ≤ 1 ∧ OwnOK hs bx k ns m ∧ many = (m : Int)) → St3 Z.K H2 p → But p H H2 →
      ∀ l, H2 l = none → ∀ t, upd H2 l (.lst (own.map V.int)) t = none → Q (.ref t) (upd (upd H2 l (.lst (own.map V.int))) t (.tup [.ref l, .int many])) := fun {H2} own many ok S2 B2 l hl t ht =>
    q t l own many _ upd_same (up_new ht upd_same) (B2.none (S2.ne hl) hl) ok ((S2.new hl).new ht) ((B2.new hl).new ht)
  have rest : tSeq (tIfS (tTest (tOp (rEqU Z.K) (tVar 3) (tC (.int 3)))) (tSeq (tAsg (tOp (rAddU Z.K) (tC (.int 1)) (tCallS (sp_Ltake Z) (WE (fun cls d _ H => E cls d H)) (tCons (tVar 0) (tCons (tOp (rIx Z.K) (tLst (tCons (tC (.int 4)) (tCons (tC (.int 4)) (tCons (tC (.int 4)) (tCons (tC (.int 12)) tNil))))) (tCallS (sp_Ltake Z) (WE (fun cls d _ H => E cls d H)) (tCons (tVar 0) (tCons (tC (.int 4)) tNil)))) tNil)))) (gName 4))
    (tRet (tTup (tCons (tLst (tCons (tC (.int 3)) (tCons (tVar 4) tNil))) (tCons (tVar 4) tNil))))) tNext)
    (tSeq (tIfS (tTest (tOp (rEqU Z.K) (tVar 3) (tC (.int 4)))) (tSeq (tAsg (tOp (rAddU Z.K) (tC (.int 2)) (tCallS (sp_Ltake Z) (WE (fun cls d _ H => E cls d H)) (tCons (tVar 0) (tCons (tOp (rIx Z.K) (tLst (tCons (tC (.int 3)) (tCons (tC (.int 3)) (tCons (tC (.int 3)) (tCons (tC (.int 11)) tNil))))) (tCallS (sp_Ltake Z) (WE (fun cls d _ H => E cls d H)) (tCons (tVar 0) (tCons (tC (.int 4)) tNil)))) tNil)))) (gName 4))
    (tRet (tTup (tCons (tLst (tCons (tC (.int 4)) (tCons (tVar 4) tNil))) (tCons (tOp (rAddU Z.K) (tVar 4) (tC (.int 1))) tNil))))) tNext)
    (tSeq (tIfS (tTest (tOp (rEqU Z.K) (tVar 3) (tC (.int 6)))) (tSeq (tAsg (tCallS (sp_Ltake Z) (WE (fun cls d _ H => E cls d H)) (tCons (tVar 0) (tCons (tCB (rLen Z.K) (tCons (tVar 1) tNil)) tNil))) (gName 5))
    (tRet (tTup (tCons (tLst (tCons (tC (.int 6)) (tCons (tVar 5) tNil))) (tCons (tOp (rIx Z.K) (tOp (rIx Z.K) (tVar 1) (tVar 5)) (tC (.int 0))) tNil))))) tNext)
    (tRet (tTup (tCons (tLst (tCons (tVar 3) tNil)) (tCons (tOp (rIx Z.K) (tLst (tCons (tC (.int 0)) (tCons (tC (.int 0)) (tCons (tC (.int 0)) (tCons (tC (.int 0)) (tCons (tC (.int 0)) (tCons (tC (.int 2)) (tCons (tC (.int 0)) (tCons (tC (.int 1)) (tCons (tC (.int 2)) (tCons (tC (.int 2)) (tCons (tC (.int 2)) (tCons (tC (.int 2)) (tCons (tC (.int 2)) (tCons (tC (.int 2)) (tCons (tC (.int 2)) (tCons (tC (.int 2)) (tCons (tC (.int 2)) (tCons (tC (.int 3)) (tCons (tC (.int 1)) (tCons (tC (.int 0)) tNil))))))))))))))))))))) (tVar 3)) tNil))))))
      ⟨fun _ H' => Q .non H', Q, fun _ _ => False, fun _ _ => False⟩ [some (.ref p), some (.ref lh), some (.int bx), some (.int v), none, none] H1 := by
    walk_at "zz"
    refine s_ifd (fun c => ?_) (fun c => ?_)
    · walk_at "zz"
      intro l4 hl4
      walk_at "zz"
      refine cl_Ltake ⟨p, 4, rfl, rfl, by omega, by omega, S1.new hl4, fun v5 H5 v50 v51 S5 B5 => ?_⟩
      have hl5 := B5.rd (S1.ne hl4) upd_same
      obtain ⟨w, hw, ew⟩ := at_ints [4, 4, 4, 12] (i := v5) v50 (by show v5 < 4; omega)
      have hw' : 4 ≤ w ∧ w ≤ 12 := by simp at hw; omega
      refine s_ix_l (SqL.of hl5) ew ?_
      walk_at "zz"
      refine cl_Ltake ⟨p, w, rfl, rfl, by omega, by omega, S5, fun v6 H6 v60 v61 S6 B6 => ?_⟩
      walk_at "zz"
      intro l hl
      walk_at "zz"
      intro t ht
      exact fin [3, 1 + v6] (1 + v6) (.inr ⟨3, [1 + v6], (1 + v6).toNat, rfl, by omega, by omega, fun _ => rfl, Nat.le_refl _, .inr (.inr (.inl ⟨rfl, by omega, by omega, by rw [Int.toNat_of_nonneg (by omega)]⟩)), by omega⟩) S6 (((B1.new hl4).trans B5).trans B6) l hl t ht
    walk_at "zz"
    refine s_ifd (fun c => ?_) (fun c => ?_)
    · walk_at "zz"
      intro l4 hl4
      walk_at "zz"
      refine cl_Ltake ⟨p, 4, rfl, rfl, by omega, by omega, S1.new hl4, fun v5 H5 v50 v51 S5 B5 => ?_⟩
      have hl5 := B5.rd (S1.ne hl4) upd_same
      obtain ⟨w, hw, ew⟩ := at_ints [3, 3, 3, 11] (i := v5) v50 (by show v5 < 4; omega)
      have hw' : 3 ≤ w ∧ w ≤ 11 := by simp at hw; omega
      refine s_ix_l (SqL.of hl5) ew ?_
      walk_at "zz"
      refine cl_Ltake ⟨p, w, rfl, rfl, by omega, by omega, S5, fun v6 H6 v60 v61 S6 B6 => ?_⟩
      walk_at "zz"
      intro l hl
      walk_at "zz"
      intro t ht
      exact fin [4, 2 + v6] (2 + v6 + 1) (.inr ⟨4, [2 + v6], (2 + v6).toNat + 1, rfl, by omega, by omega, fun _ => rfl, Nat.le_refl _, .inr (.inr (.inr (.inl ⟨rfl, (2 + v6).toNat, by rw [Int.toNat_of_nonneg (by omega)], by omega, by omega, rfl⟩))), by omega⟩) S6 (((B1.new hl4).trans B5).trans B6) l hl t ht
    walk_at "zz"
    refine s_ifd (fun c => ?_) (fun c => ?_)
    · have hlh1 := B1.rd nlp hlh
      walk_at "zz"
      rw [hP.len]
      have n1 := hok.1
      have n2 := hok.2.1
      refine cl_Ltake ⟨p, hs.length, rfl, rfl, by omega, by omega, S1, fun v6 H6 v60 v61 S6 B6 => ?_⟩
      have hlh6 := B6.rd nlp hlh1
      have hP6 := (hP.mono (hSt.tups B1)).mono (S1.tups B6)
      have hv : v6.toNat < hs.length := by omega
      have eh : hs[v6.toNat]? = some hs[v6.toNat] := List.getElem?_eq_getElem hv
      obtain ⟨t6, et, ht6⟩ := hP6.get eh
      walk_at "zz"
      intro l hl
      walk_at "zz"
      refine s_ix_l (SqL.of (up_new hl hlh6)) (at_of (j := v6.toNat) (v := .ref t6) (by omega) et) ?_
      walk_at "zz"
      refine s_ix_t (SqT.of (up_new hl ht6)) (v := .int hs[v6.toNat].1) rfl ?_
      walk_at "zz"
      intro t ht
      have := (hok.2.2 _ _ eh).1
      exact fin [6, v6] _ (.inr ⟨6, [v6], hs[v6.toNat].1.toNat, rfl, by omega, by omega, fun _ => rfl, Nat.le_refl _, .inr (.inr (.inr (.inr (.inl ⟨rfl, v6.toNat, _, by rw [Int.toNat_of_nonneg (by omega)], eh, Int.toNat_of_nonneg this⟩)))), (Int.toNat_of_nonneg this).symm⟩) S6 (B1.trans B6) l hl t ht
    walk_at "zz"
    intro l hl
    walk_at "zz"
    intro l2 hl2
    walk_at "zz"
    have tab : ∃ m : Nat, atI ([0, 0, 0, 0, 0, 2, 0, 1, 2, 2, 2, 2, 2, 2, 2, 2, 2, 3, 1, 0].map V.int) v = some (.int (m : Int)) ∧ (v < 3 ∨ OwnOK hs bx v [] m) := by
      have : v < 3 ∨ v = 5 ∨ (7 ≤ v ∧ v ≤ 19) := by omega
      rcases this with z | z | z
      · obtain ⟨w, hw, ew⟩ := at_ints [0, 0, 0, 0, 0, 2, 0, 1, 2, 2, 2, 2, 2, 2, 2, 2, 2, 3, 1, 0] (i := v) v0 (by show v < 20; omega)
        have : 0 ≤ w := by simp at hw; omega
        exact ⟨w.toNat, by rw [Int.toNat_of_nonneg this]; exact ew, .inl z⟩
      · subst z
        exact ⟨2, rfl, .inr (.inr (.inr (.inr (.inr (.inr (.inl ⟨rfl, rfl, rfl⟩))))))⟩
      · refine ⟨(manyP v).toNat, ?_, .inr (.inr (.inr (.inr (.inr (.inr (.inr ⟨z.1, rfl, ?_⟩))))))⟩
        · have : v = 7 ∨ v = 8 ∨ v = 9 ∨ v = 10 ∨ v = 11 ∨ v = 12 ∨ v = 13 ∨ v = 14 ∨ v = 15 ∨ v = 16 ∨ v = 17 ∨ v = 18 ∨ v = 19 := by omega
          rcases this with e | e | e | e | e | e | e | e | e | e | e | e | e <;> subst e <;> rfl
        · refine Int.toNat_of_nonneg ?_
          unfold manyP
          repeat' split
          all_goals omega
    obtain ⟨m, em, om⟩ := tab
    refine s_ix_l (SqL.of upd_same) em ?_
    walk_at "zz"
    intro t ht
    have ne : l ≠ l2 := fun e => by subst e; rw [upd_same] at hl2; cases hl2
    refine q t l [v] m _ upd_same (up_new ht (up_new hl2 upd_same)) (B1.none (S1.ne hl) hl) ?_ (((S1.new hl).new hl2).new ht) (((B1.new hl).new hl2).new ht)
    rcases om with z | z
    · exact .inl ⟨v, rfl, z⟩
    · by_cases c3 : v < 3
      · exact .inl ⟨v, rfl, c3⟩
      · exact .inr ⟨v, [], m, rfl, v0, by omega, fun z => absurd z c3, Nat.zero_le _, z, rfl⟩
  walk_at "zz"
  refine s_ifd (fun c => ?_) (fun c => ?_)
  · walk_at "zz"
    refine s_ifd (fun c2 => ?_) (fun c2 => ?_)
    · walk_at "zz"
      refine cl_Ltake ⟨p, bx, rfl, rfl, c2, hb, S1, fun v2 H2 v20 v21 S2 B2 => ?_⟩
      walk_at "zz"
      intro l hl
      walk_at "zz"
      intro t ht
      exact fin [2, v2] 1 (.inr ⟨2, [v2], 1, rfl, by omega, by omega, fun _ => rfl, Nat.le_refl _, .inr (.inl ⟨.inr ⟨rfl, rfl⟩, v2, rfl, v20, v21⟩), rfl⟩) S2 (B1.trans B2) l hl t ht
    · exact rest
  · refine s_iff ?_
    exact rest

theorem rd_Lnode {Z : Adr} (T : Top Z) {n : Nat} {a0 a1 a2 a3 a4 : V} {H : Hp} {Q : VK} {E : XK} (h : q_Lnode Z (n + 1) a0 a1 a2 a3 a4 H Q E) : t_Lnode Z n (fun cls d _ H => E cls d H) ⟨fun _ H' => Q .non H', Q, fun _ _ => False, fun _ _ => False⟩ [some a0, some a1, some a2, some a3, some a4, none, none, none] H := by
  unfold t_Lnode
  obtain ⟨p, lh, lr, hs, vs, bx, dd, r, f, rfl, rfl, rfl, rfl, rfl, hd, hf1, hfn, hb, hok, hlh, hP, nrh, hlr, r0, r1, hSt, q⟩ := h
  obtain ⟨f, rfl⟩ : ∃ g, f = g + 1 := ⟨f - 1, by omega⟩
  walk_at "zz"
  have nrp : lr ≠ p := by
    obtain ⟨sa, ns, k, l, _, _, _, hp⟩ := hSt
    intro e
    subst e
    rw [hp] at hlr
    cases hlr
  have nhp : lh ≠ p := by
    obtain ⟨sa, ns, k, l, _, _, _, hp⟩ := hSt
    intro e
    subst e
    rw [hp] at hlh
    cases hlh
    obtain ⟨n1, n2, n3⟩ := hok
    match hs, n1 with
    | h :: hs, _ =>
      obtain ⟨t, r, e, ht, h2⟩ := hP
      cases e
      match hs, h2 with
      | [], e => cases e
      | h :: hs, ⟨t, r, e, _, _⟩ => cases e
  refine cl_Lhead ⟨p, lh, hs, vs, bx, rfl, rfl, rfl, hb, hok, hlh, hP, hSt, fun t l own many H1 ht hl hl0 hown S1 B1 => ?_⟩
  have hlh1 := B1.rd nhp hlh
  have hP1 := hP.mono (hSt.tups B1)
  have hlr1 := B1.rd nrp hlr
  have nlp : l ≠ p := hSt.ne hl0
  have nlr : lr ≠ l := ne_of_none hlr hl0
  refine s_gun_t (SqT.of ht) rfl ?_
  have leaf : ∀ E', sp_Lleaf Z [.ref p, .int bx] H1 Q E' := fun E' => by
    refine cl_Lleaf ⟨p, bx, rfl, rfl, hb, S1, fun l2 t2 H2 hl2 hv2 ok len S2 B2 => ?_⟩
    exact q l2 t2 r _ (B1.none (S1.ne hl2) hl2) hv2 (ok hs f) (by omega) r0 (Int.le_refl _) (B2.rd nrp hlr1) S2 (But2.left (B1.trans B2))
  have go : ∀ k ns (m : Nat), own = k :: ns → 0 ≤ k → k ≤ 19 → OwnOK hs bx k ns m → ns.length ≤ 1 → many = (m : Int) → (m : Int) ≤ r → (m ≠ 0 → dd ≤ 9) →
      tSeq (tAsg (tOp (rI0 fun i j => .int (i - j)) (tOp (rIx Z.K) (tVar 4) (tC (.int 0))) (tVar 6)) (gSub (tVar 4) (tC (.int 0)) rSetL))
        (tSeq (tFor (iRng1 (tCons (tVar 6) tNil)) (gName 7) (tAsg (tOp (rAddU Z.K) (tVar 5) (tCallS (sp_Lnode Z n) (WE (fun cls d _ H => E cls d H)) (tCons (tVar 0) (tCons (tVar 1) (tCons (tVar 2) (tCons (tOp (rAddU Z.K) (tVar 3) (tC (.int 1))) (tCons (tVar 4) tNil))))))) (gName 5)))
        (tRet (tVar 5))) ⟨fun _ H' => Q .non H', Q, fun _ _ => False, fun _ _ => False⟩ [some (.ref p), some (.ref lh), some (.int bx), some (.int dd), some (.ref lr), some (.ref l), some (.int many), none] H1 := by
    rintro k ns m rfl k0 k1 ho hns rfl mr md
    walk_at "zz"
    refine s_ix_l (SqL.of hlr1) (v := .int r) rfl ?_
    walk_at "zz"
    refine c_setL 0 [.int (r - (m : Int))] hlr1 rfl rfl fun H2 B2 hlr2 => ?_
    have S2 := S1.but B2 nrp.symm
    have T2 : TupS H1 H2 := TupS.but B2 hlr1 fun ys e => by cases e
    have hl2 := B2.rd nlr.symm hl
    walk_at "zz"
    refine loop_range (fun i σ' H' => ∃ (lf : Addr) (ps : List Nd) (ri : Int) (x : Option V), ps.length = i ∧ (∀ t ∈ ps, OkN hs bx f t) ∧ H lf = none ∧ H' lf = some (.lst ((k :: (ns ++ encs ps)).map V.int)) ∧ H' lr = some (.lst [.int ri]) ∧ 0 ≤ ri ∧ ri ≤ r - m ∧ ((encs ps).length : Int) ≤ 2 * (i + (r - m) - ri) ∧
      St3 Z.K H' p ∧ But2 p lr H H' ∧ σ' = [some (.ref p), some (.ref lh), some (.int bx), some (.int dd), some (.ref lr), some (.ref lf), some (.int (m : Int)), x])
      ⟨l, [], r - m, _, rfl, fun t ht => (by cases ht), hl0, by simpa [encs] using hl2, hlr2, by omega, Int.le_refl _, by simp [encs], S2, (But2.left B1).trans (But2.right B2), rfl⟩ ?_ ?_
    · rintro i σ' H3 hi ⟨lf, ps, ri, x, hpl, hps, hlf0, hlf, hlr3, ri0, ri1, hen, S3, B3, rfl⟩
      have hm0 : m ≠ 0 := by omega
      have hdd := md hm0
      have nfp : lf ≠ p := hSt.ne hlf0
      have nfr : lf ≠ lr := (ne_of_none hlr hlf0).symm
      obtain ⟨sa, ns3, k3, l3, a1, a2, a3, hp3⟩ := hSt
      have T3 : TupS H H3 := B3.tups hp3 (fun ys e => by cases e) hlr (fun ys e => by cases e)
      have hlh3 := B3.rd nhp nrh.symm hlh
      have hP3 := hP.mono T3
      walk_at "zz"
      refine cl_Lnode ⟨p, lh, lr, hs, vs, bx, dd + 1, ri, f, rfl, rfl, rfl, rfl, rfl, by omega, by omega, by omega, hb, hok, hlh3, hP3, nrh, hlr3, ri0, by omega, S3, fun l4 t4 r4 H4 hl4 hv4 ok4 len4 r40 r41 hlr4 S4 B4 => ?_⟩
      have hlf4 := B4.rd nfp nfr hlf
      have e4 : (k :: (ns ++ encs ps)).map V.int ++ (enc t4).map V.int = (k :: (ns ++ encs (ps ++ [t4]))).map V.int := by
        rw [← List.map_append, encs_app]
        simp [encs]
      have lenb : (encs (ps ++ [t4])).length = (encs ps).length + (enc t4).length := by rw [encs_app]; simp [encs]
      refine s_add_l hlf4 hv4 (by
        rw [List.length_map, List.length_map, List.length_cons, List.length_append]
        have : 100000 ≤ sizeLine := by decide
        omega) fun l5 hl5 => ?_
      rw [e4]
      walk_at "zz"
      have n5p : l5 ≠ p := S4.ne hl5
      have n5r : l5 ≠ lr := (ne_of_none hlr4 hl5).symm
      refine ⟨l5, ps ++ [t4], r4, _, by rw [List.length_append, hpl]; rfl, fun t ht => ?_, (B3.trans B4).none n5p n5r hl5, upd_same, up_new hl5 hlr4, r40, by omega, by rw [lenb]; omega, S4.new hl5, (B3.trans B4).new hl5, rfl⟩
      rcases List.mem_append.mp ht with z | z
      · exact hps t z
      · rw [List.mem_singleton.mp z]; exact ok4
    · rintro σ' H3 ⟨lf, ps, ri, x, hpl, hps, hlf0, hlf, hlr3, ri0, ri1, hen, S3, B3, rfl⟩
      rw [Int.toNat_natCast] at hpl hen
      walk_at "zz"
      refine q lf (.mk k 0 ns ps) ri H3 hlf0 hlf ⟨k0, k1, by rw [hpl]; exact ho, hps⟩ ?_ ri0 (by omega) hlr3 S3 B3
      simp only [enc, List.length_cons, List.length_append]
      omega
  have own0 : ∃ k ns, own = k :: ns ∧ ns.length ≤ 1 := by
    rcases hown with ⟨k, e, _⟩ | ⟨k, ns, m, e, _, _, _, h, _⟩
    · exact ⟨k, [], e, Nat.zero_le _⟩
    · exact ⟨k, ns, e, h⟩
  obtain ⟨k, ns, e0, hns⟩ := own0
  walk_at "zz"
  have bad : (k < 3 ∧ ns.length < 1) ∨ ∃ m, 0 ≤ k ∧ k ≤ 19 ∧ OwnOK hs bx k ns m ∧ many = (m : Int) ∧ (k < 3 → ns.length = 1) := by
    rcases hown with ⟨k', e, h3⟩ | ⟨k', ns', m, e, h1, h2, h6, _, h4, h5⟩
    · rw [e0] at e; cases e; exact .inl ⟨h3, by simp⟩
    · rw [e0] at e; cases e; exact .inr ⟨m, h1, h2, h4, h5, h6⟩
  have ownl : (own.map V.int).length = ns.length + 1 := by rw [e0]; simp
  refine s_ix_l (SqL.of hl) (v := .int k) (at_of (j := 0) rfl (by rw [e0]; rfl)) ?_
  rcases bad with ⟨b1, b2⟩ | ⟨m, k0, k1, ho, em, b3⟩
  · walk_at "zz"
    refine s_ifdt b1 ?_
    walk_at "zz"
    refine s_ifdt (by omega) ?_
    walk_at "zz"
    exact leaf _
  walk_at "zz"
  refine s_ifd (fun c => ?_) (fun c => ?_)
  · walk_at "zz"
    refine s_ifdf (by omega) ?_
    walk_at "zz"
    refine s_ix_l (SqL.of hlr1) (v := .int r) rfl ?_
    walk_at "zz"
    refine s_ifd (fun d1 => ?_) (fun d1 => ?_)
    · walk_at "zz"
      exact leaf _
    walk_at "zz"
    refine s_ifd (fun d2 => ?_) (fun d2 => ?_)
    · walk_at "zz"
      refine s_ifd (fun d3 => ?_) (fun d3 => ?_)
      · walk_at "zz"
        exact leaf _
      · refine s_next ?_
        exact go k ns m e0 k0 k1 ho hns em (by omega) (fun _ => by omega)
    · refine s_iff ?_
      refine s_next ?_
      exact go k ns m e0 k0 k1 ho hns em (by omega) (fun z => by omega)
  · skip
    walk_at "zz"
    refine s_ix_l (SqL.of hlr1) (v := .int r) rfl ?_
    walk_at "zz"
    refine s_ifd (fun d1 => ?_) (fun d1 => ?_)
    · walk_at "zz"
      exact leaf _
    walk_at "zz"
    refine s_ifd (fun d2 => ?_) (fun d2 => ?_)
    · walk_at "zz"
      refine s_ifd (fun d3 => ?_) (fun d3 => ?_)
      · walk_at "zz"
        exact leaf _
      · refine s_next ?_
        exact go k ns m e0 k0 k1 ho hns em (by omega) (fun _ => by omega)
    · refine s_iff ?_
      refine s_next ?_
      exact go k ns m e0 k0 k1 ho hns em (by omega) (fun z => by omega)

theorem rd_Lsheet {Z : Adr} (T : Top Z) {a0 a1 : V} {H : Hp} {Q : VK} {E : XK} (h : q_Lsheet Z a0 a1 H Q E) : t_Lsheet Z (fun cls d _ H => E cls d H) ⟨fun _ H' => Q .non H', Q, fun _ _ => False, fun _ _ => False⟩ [some a0, some a1, none, none, none, none] H := by
  unfold t_Lsheet
  obtain ⟨p, m, rfl, rfl, m0, m1, hSt, q⟩ := h
  walk_at "zz"
  refine cl_Lheads ⟨p, rfl, hSt, fun lh hs vs H1 hok hlh0 hlh hP S1 B1 => ?_⟩
  have n2 := hok.2.1
  walk_at "zz"
  rw [hP.len]
  intro l hl
  have nlp : l ≠ p := S1.ne hl
  have nhl : lh ≠ l := ne_of_none hlh hl
  have hl0 : H l = none := B1.none nlp hl
  have nhp : lh ≠ p := hSt.ne hlh0
  walk_at "zz"
  refine loop_list vs (fun i σ' H' => ∃ (x4 x5 : Option V), H' lh = some (.lst vs) ∧ PairsAt H' hs vs ∧ St3 Z.K H' p ∧ But p H H' ∧ H' l = some (.lst (((hs.length : Int) :: flat (hs.take i)).map V.int)) ∧ σ' = [some (.ref p), some (.int m), some (.ref lh), some (.ref l), x4, x5])
    ⟨_, _, up_new hl hlh, hP.mono (TupS.new hl), S1.new hl, B1.new hl, upd_same, rfl⟩ (fun i σ' H' hi ⟨x4, x5, a1, _⟩ => SqL.of a1) ?_ ?_
  · rintro i v σ' H2 hv ⟨x4, x5, hlh2, hP2, S2, B2, hl2, rfl⟩
    have hi : i < hs.length := by
      have := (List.getElem?_eq_some_iff.mp hv).1
      rwa [hP.len] at this
    have ehi : hs[i]? = some hs[i] := List.getElem?_eq_getElem hi
    obtain ⟨t, et, ht⟩ := hP2.get ehi
    rw [hv] at et
    cases et
    refine s_gun_t (SqT.of ht) rfl ?_
    walk_at "zz"
    intro l3 hl3
    walk_at "zz"
    refine c_extend (up_new hl3 hl2) upd_same (by
      rw [List.length_map, List.length_cons, flat_len, List.length_take]
      have : 100000 ≤ sizeLine := by decide
      first | omega | (simp; omega)) fun H4 B4 h4 => ?_
    have T4 : TupS _ H4 := TupS.but B4 (up_new (u := .lst [.int hs[i].1, .int hs[i].2]) hl3 hl2) fun ys e => by cases e
    walk_at "zz"
    refine ⟨_, _, B4.rd nhl (up_new hl3 hlh2), (hP2.mono (TupS.new hl3)).mono T4, (S2.new hl3).but B4 nlp.symm, (B2.new hl3).own B4 hl0, ?_, rfl⟩
    rw [h4, List.take_succ_eq_append_getElem hi, flat_app]
    simp [flat]
  · rintro σ' H2 ⟨x4, x5, hlh2, hP2, S2, B2, hl2, rfl⟩
    rw [hP.len, List.take_length] at hl2
    walk_at "zz"
    refine loop_list vs (fun i σ' H' => ∃ (ts : List Nd) (x4 x5 : Option V), H' lh = some (.lst vs) ∧ PairsAt H' hs vs ∧ St3 Z.K H' p ∧ But p H H' ∧ ts.length = i ∧ (∀ (j : Nat) (h : Int × Int) (t : Nd), hs[j]? = some h → ts[j]? = some t → OkN hs h.2 10 t) ∧ (encs ts).length ≤ 2002 * i ∧ H' l = some (.lst (((hs.length : Int) :: (flat hs ++ encs ts)).map V.int)) ∧ σ' = [some (.ref p), some (.int m), some (.ref lh), some (.ref l), x4, x5])
      ⟨[], _, _, hlh2, hP2, S2, B2, rfl, fun j h t _ e => by simp at e, Nat.zero_le _, by simpa [encs] using hl2, rfl⟩ (fun i σ' H' hi ⟨ts, x4, x5, a1, _⟩ => SqL.of a1) ?_ ?_
    · rintro i v σ' H3 hv ⟨ts, x4, x5, hlh3, hP3, S3, B3, htl, hts, hen, hl3, rfl⟩
      have hi : i < hs.length := by
        have := (List.getElem?_eq_some_iff.mp hv).1
        rwa [hP.len] at this
      have ehi : hs[i]? = some hs[i] := List.getElem?_eq_getElem hi
      obtain ⟨t, et, ht⟩ := hP3.get ehi
      rw [hv] at et
      cases et
      refine s_gun_t (SqT.of ht) rfl ?_
      walk_at "zz"
      refine cl_Ltake ⟨p, m, rfl, rfl, m0, by omega, S3, fun v4 H4 v40 v41 S4 B4 => ?_⟩
      have hlh4 := B4.rd nhp hlh3
      have hP4 := hP3.mono (S3.tups B4)
      have hl4 := B4.rd nlp hl3
      walk_at "zz"
      intro lr hlr
      have nrh : lr ≠ lh := (ne_of_none hlh4 hlr).symm
      have nrl : l ≠ lr := ne_of_none hl4 hlr
      have nrp : lr ≠ p := S4.ne hlr
      walk_at "zz"
      have hb := (hok.2.2 _ _ ehi).2.2.2
      refine cl_Lnode ⟨p, lh, lr, hs, vs, hs[i].2, 1, v4, 10, rfl, rfl, rfl, rfl, rfl, by omega, by omega, by omega, by omega, hok, up_new hlr hlh4, hP4.mono (TupS.new hlr), nrh, upd_same, v40, by omega, S4.new hlr, fun l5 t5 r5 H5 hl5 hv5 ok5 len5 r50 r51 hr5 S5 B5 => ?_⟩
      have hl5' := B5.rd nlp nrl (up_new hlr hl4)
      have hlh5 := B5.rd nhp nrh.symm (up_new hlr hlh4)
      have hlr0 : H4 lr = none := hlr
      have B45 : But p H4 H5 := ((But2.of (same_new hlr)).trans B5).one hlr0
      have hP5 := hP4.mono (S4.tups B45)
      walk_at "zz"
      refine c_extend hl5' hv5 (by
        rw [List.length_map, List.length_map, List.length_cons, List.length_append, flat_len]
        have : 100000 ≤ sizeLine := by decide
        omega) fun H6 B6 h6 => ?_
      have T6 : TupS _ H6 := TupS.but B6 hl5' fun ys e => by cases e
      walk_at "zz"
      refine ⟨ts ++ [t5], _, _, B6.rd nhl hlh5, hP5.mono T6, S5.but B6 nlp.symm, ((B3.trans B4).trans B45).own B6 hl0, by rw [List.length_append, htl]; rfl, ?_, ?_, ?_, rfl⟩
      · intro j h t hj hjt
        by_cases c : j < ts.length
        · rw [List.getElem?_append_left c] at hjt
          exact hts j h t hj hjt
        · rw [List.getElem?_append_right (by omega)] at hjt
          have hz : j - ts.length = 0 := by
            have := (List.getElem?_eq_some_iff.mp hjt).1
            simp at this
            omega
          rw [hz] at hjt
          cases hjt
          have : j = i := by omega
          subst this
          rw [ehi] at hj
          cases hj
          exact ok5
      · rw [encs_app, List.length_append]
        simp only [encs, List.append_nil]
        omega
      · rw [h6, encs_app]
        simp [encs]
    · rintro σ' H3 ⟨ts, x4, x5, hlh3, hP3, S3, B3, htl, hts, hen, hl3, rfl⟩
      rw [hP.len] at htl hen
      obtain ⟨bs, e⟩ := sheet_of hok htl hts
      walk_at "zz"
      refine q l _ hs bs H3 hl0 hl3 e ?_ S3 B3
      rw [List.length_cons, List.length_append, flat_len]
      omega

theorem rd_Lsheet_with {Z : Adr} (T : Top Z) {a0 a1 a2 : V} {H : Hp} {Q : VK} {E : XK} (h : q_Lsheet_with Z a0 a1 a2 H Q E) : t_Lsheet_with Z (fun cls d _ H => E cls d H) ⟨fun _ H' => Q .non H', Q, fun _ _ => False, fun _ _ => False⟩ [some a0, some a1, some a2, none, none, none] H := by
  unfold t_Lsheet_with
  obtain ⟨p, lh, m, hs, vs, rfl, rfl, rfl, m0, m1, hok, hlh, hP, nhp, hSt, q⟩ := h
  walk_at "zz"
  have n2 := hok.2.1
  walk_at "zz"
  rw [hP.len]
  intro l hl
  have nlp : l ≠ p := hSt.ne hl
  have nhl : lh ≠ l := ne_of_none hlh hl
  have hl0 : H l = none := hl
  walk_at "zz"
  refine loop_list vs (fun i σ' H' => ∃ (x4 x5 : Option V), H' lh = some (.lst vs) ∧ PairsAt H' hs vs ∧ St3 Z.K H' p ∧ But p H H' ∧ H' l = some (.lst (((hs.length : Int) :: flat (hs.take i)).map V.int)) ∧ σ' = [some (.ref p), some (.ref lh), some (.int m), some (.ref l), x4, x5])
    ⟨_, _, up_new hl hlh, hP.mono (TupS.new hl), hSt.new hl, (But.refl p H).new hl, upd_same, rfl⟩ (fun i σ' H' hi ⟨x4, x5, a1, _⟩ => SqL.of a1) ?_ ?_
  · rintro i v σ' H2 hv ⟨x4, x5, hlh2, hP2, S2, B2, hl2, rfl⟩
    have hi : i < hs.length := by
      have := (List.getElem?_eq_some_iff.mp hv).1
      rwa [hP.len] at this
    have ehi : hs[i]? = some hs[i] := List.getElem?_eq_getElem hi
    obtain ⟨t, et, ht⟩ := hP2.get ehi
    rw [hv] at et
    cases et
    refine s_gun_t (SqT.of ht) rfl ?_
    walk_at "zz"
    intro l3 hl3
    walk_at "zz"
    refine c_extend (up_new hl3 hl2) upd_same (by
      rw [List.length_map, List.length_cons, flat_len, List.length_take]
      have : 100000 ≤ sizeLine := by decide
      first | omega | (simp; omega)) fun H4 B4 h4 => ?_
    have T4 : TupS _ H4 := TupS.but B4 (up_new (u := .lst [.int hs[i].1, .int hs[i].2]) hl3 hl2) fun ys e => by cases e
    walk_at "zz"
    refine ⟨_, _, B4.rd nhl (up_new hl3 hlh2), (hP2.mono (TupS.new hl3)).mono T4, (S2.new hl3).but B4 nlp.symm, (B2.new hl3).own B4 hl0, ?_, rfl⟩
    rw [h4, List.take_succ_eq_append_getElem hi, flat_app]
    simp [flat]
  · rintro σ' H2 ⟨x4, x5, hlh2, hP2, S2, B2, hl2, rfl⟩
    rw [hP.len, List.take_length] at hl2
    walk_at "zz"
    refine loop_list vs (fun i σ' H' => ∃ (ts : List Nd) (x4 x5 : Option V), H' lh = some (.lst vs) ∧ PairsAt H' hs vs ∧ St3 Z.K H' p ∧ But p H H' ∧ ts.length = i ∧ (∀ (j : Nat) (h : Int × Int) (t : Nd), hs[j]? = some h → ts[j]? = some t → OkN hs h.2 10 t) ∧ (encs ts).length ≤ 2002 * i ∧ H' l = some (.lst (((hs.length : Int) :: (flat hs ++ encs ts)).map V.int)) ∧ σ' = [some (.ref p), some (.ref lh), some (.int m), some (.ref l), x4, x5])
      ⟨[], _, _, hlh2, hP2, S2, B2, rfl, fun j h t _ e => by simp at e, Nat.zero_le _, by simpa [encs] using hl2, rfl⟩ (fun i σ' H' hi ⟨ts, x4, x5, a1, _⟩ => SqL.of a1) ?_ ?_
    · rintro i v σ' H3 hv ⟨ts, x4, x5, hlh3, hP3, S3, B3, htl, hts, hen, hl3, rfl⟩
      have hi : i < hs.length := by
        have := (List.getElem?_eq_some_iff.mp hv).1
        rwa [hP.len] at this
      have ehi : hs[i]? = some hs[i] := List.getElem?_eq_getElem hi
      obtain ⟨t, et, ht⟩ := hP3.get ehi
      rw [hv] at et
      cases et
      refine s_gun_t (SqT.of ht) rfl ?_
      walk_at "zz"
      refine cl_Ltake ⟨p, m, rfl, rfl, m0, by omega, S3, fun v4 H4 v40 v41 S4 B4 => ?_⟩
      have hlh4 := B4.rd nhp hlh3
      have hP4 := hP3.mono (S3.tups B4)
      have hl4 := B4.rd nlp hl3
      walk_at "zz"
      intro lr hlr
      have nrh : lr ≠ lh := (ne_of_none hlh4 hlr).symm
      have nrl : l ≠ lr := ne_of_none hl4 hlr
      have nrp : lr ≠ p := S4.ne hlr
      walk_at "zz"
      have hb := (hok.2.2 _ _ ehi).2.2.2
      refine cl_Lnode ⟨p, lh, lr, hs, vs, hs[i].2, 1, 1 + v4, 10, rfl, rfl, rfl, rfl, rfl, by omega, by omega, by omega, by omega, hok, up_new hlr hlh4, hP4.mono (TupS.new hlr), nrh, upd_same, by omega, by omega, S4.new hlr, fun l5 t5 r5 H5 hl5 hv5 ok5 len5 r50 r51 hr5 S5 B5 => ?_⟩
      have hl5' := B5.rd nlp nrl (up_new hlr hl4)
      have hlh5 := B5.rd nhp nrh.symm (up_new hlr hlh4)
      have hlr0 : H4 lr = none := hlr
      have B45 : But p H4 H5 := ((But2.of (same_new hlr)).trans B5).one hlr0
      have hP5 := hP4.mono (S4.tups B45)
      walk_at "zz"
      refine c_extend hl5' hv5 (by
        rw [List.length_map, List.length_map, List.length_cons, List.length_append, flat_len]
        have : 100000 ≤ sizeLine := by decide
        omega) fun H6 B6 h6 => ?_
      have T6 : TupS _ H6 := TupS.but B6 hl5' fun ys e => by cases e
      walk_at "zz"
      refine ⟨ts ++ [t5], _, _, B6.rd nhl hlh5, hP5.mono T6, S5.but B6 nlp.symm, ((B3.trans B4).trans B45).own B6 hl0, by rw [List.length_append, htl]; rfl, ?_, ?_, ?_, rfl⟩
      · intro j h t hj hjt
        by_cases c : j < ts.length
        · rw [List.getElem?_append_left c] at hjt
          exact hts j h t hj hjt
        · rw [List.getElem?_append_right (by omega)] at hjt
          have hz : j - ts.length = 0 := by
            have := (List.getElem?_eq_some_iff.mp hjt).1
            simp at this
            omega
          rw [hz] at hjt
          cases hjt
          have : j = i := by omega
          subst this
          rw [ehi] at hj
          cases hj
          exact ok5
      · rw [encs_app, List.length_append]
        simp only [encs, List.append_nil]
        omega
      · rw [h6, encs_app]
        simp [encs]
    · rintro σ' H3 ⟨ts, x4, x5, hlh3, hP3, S3, B3, htl, hts, hen, hl3, rfl⟩
      rw [hP.len] at htl hen
      obtain ⟨bs, e⟩ := sheet_of hok htl hts
      walk_at "zz"
      refine q l _ bs H3 hl0 hl3 e ?_ S3 B3
      rw [List.length_cons, List.length_append, flat_len]
      omega

theorem rd_Lmany {Z : Adr} (T : Top Z) {a0 : V} {H : Hp} {Q : VK} {E : XK} (h : q_Lmany Z a0 H Q E) : t_Lmany Z (fun cls d _ H => E cls d H) ⟨fun _ H' => Q .non H', Q, fun _ _ => False, fun _ _ => False⟩ [some a0, none, none, none] H := by
  unfold t_Lmany
  obtain ⟨a, n, ea, hn, hl, q⟩ := h
  rw [ea]
  clear ea
  have big : 1000000 ≤ sizeLine := by decide
  walk_at "zz"
  intro l0 hl0
  have S1 := same_new (o := .lst [a]) hl0
  have h1 : upd H l0 (.lst [a]) l0 = some (.lst [a]) := upd_same
  have N1 : NodesAt (upd H l0 (.lst [a])) [n] [a] := ⟨a, [], rfl, hn.mono (TupS.of S1), rfl⟩
  generalize upd H l0 (.lst [a]) = H1 at *
  walk_at "zz"
  refine s_while (fun M σ' H' => ∃ (lw : Addr) (ws : List V) (wait : List Nd) (fnd : Nat) (x3 : Option V), M = (encs wait).length ∧ Same H H' ∧ H lw = none ∧ H' lw = some (.lst ws) ∧ NodesAt H' wait ws ∧ fnd + (encs wait).length = (enc n).length ∧ σ' = [some a, some (.int (fnd : Int)), some (.ref lw), x3]) _
    ⟨l0, [a], [n], 0, _, rfl, S1, hl0, h1, N1, by simp [encs], rfl⟩ ?_
  rintro M σ' H2 ⟨lw, ws, wait, fnd, x3, rfl, S2, hlw, h2, N2, ef, rfl⟩
  walk_at "zz"
  intro le hle
  have S3 := same_new (o := .lst []) hle
  have h3 : upd H2 le (.lst []) le = some (.lst []) := upd_same
  have h23 := S3 _ _ h2
  have N3 := N2.mono (TupS.of S3)
  generalize upd H2 le (.lst []) = H3 at *
  refine s_neN h23 h3 ?_
  rw [N2.len]
  walk_at "zz"
  have S23 := S2.trans S3
  rcases List.eq_nil_or_concat wait with rfl | ⟨w', x, ew⟩
  · refine s_nft rfl ?_
    walk_at "zz"
    have : fnd = (enc n).length := by rw [← ef]; simp [encs]
    rw [this]
    exact q H3 S23
  rw [List.concat_eq_append] at ew
  subst ew
  rw [show (!decide ((w' ++ [x]).length = 0)) = true by simp]
  refine s_ift ?_
  obtain ⟨us, v, rfl, hW1, hW2⟩ := N3.last
  obtain ⟨kd, pl, nn, pp⟩ := x
  have len : (encs (w' ++ [.mk kd pl nn pp])).length = (encs w').length + (1 + nn.length + (encs pp).length) := by
    rw [encs_app, List.length_append]
    show _ + ((kd :: (nn ++ encs pp)) ++ []).length = _
    rw [List.append_nil, List.length_cons, List.length_append]
    omega
  rw [len] at ef
  walk_at "zz"
  refine c_pop (z := v) h23 (by simp) fun H4 B4 h4 => ?_
  have T4 : TupS H3 H4 := TupS.but B4 h23 fun ys e => by cases e
  rw [List.dropLast_concat] at h4
  obtain ⟨t, tn, tp, vs2, rfl, g1, g2, g3, g4⟩ := hW2.mono T4
  have S24 := same_own S23 B4 hlw
  walk_at "zz"
  refine s_ix_t (SqT.of g1) (v := .ref tn) rfl ?_
  walk_at "zz"
  rw [List.length_map]
  refine s_ix_t (SqT.of g1) (v := .ref tp) rfl ?_
  walk_at "zz"
  intro la hla
  have S5 := same_new (o := .lst vs2) hla
  have h5 : upd H4 la (.lst vs2) la = some (.lst vs2) := upd_same
  have h45 := S5 _ _ h4
  generalize upd H4 la (.lst vs2) = H5 at *
  have gl := g4.len
  have wl := hW1.len
  have ng : ∀ l : List Nd, l.length ≤ (encs l).length := fun l => by
    induction l with
    | nil => exact Nat.zero_le _
    | cons x l ih =>
      have : 1 ≤ (enc x).length := by cases x; simp [enc]
      show l.length + 1 ≤ (enc x ++ encs l).length
      rw [List.length_append]
      omega
  have b1 := ng w'
  have b2 := ng pp
  refine s_add_l h45 h5 (by omega) fun lb hlb => ?_
  have S6 := same_new (o := .lst (us ++ vs2)) hlb
  walk_at "zz"
  have S26 := (S24.trans S5).trans S6
  refine ⟨_, ?_, lb, us ++ vs2, w' ++ pp, fnd + (1 + nn.length), some (.ref t), rfl, S26, (S24.trans S5).free hlb, upd_same, ?_, ?_, ?_⟩
  · rw [len, encs_app, List.length_append]; omega
  · exact ((hW1.mono T4).mono (TupS.of (S5.trans S6))).append (g4.mono (TupS.of (S5.trans S6)))
  · rw [encs_app, List.length_append]; omega
  · rw [show (fnd : Int) + 1 + (nn.length : Nat) = ((fnd + (1 + nn.length) : Nat) : Int) by omega]; rfl

theorem rd_Ldepth {Z : Adr} (T : Top Z) {a0 : V} {H : Hp} {Q : VK} {E : XK} (h : q_Ldepth Z a0 H Q E) : t_Ldepth Z (fun cls d _ H => E cls d H) ⟨fun _ H' => Q .non H', Q, fun _ _ => False, fun _ _ => False⟩ [some a0, none, none, none, none, none, none] H := by
  unfold t_Ldepth
  obtain ⟨a, n, ea, hn, hl, q⟩ := h
  rw [ea]
  clear ea
  have big : 1000000 ≤ sizeLine := by decide
  have pos : ∀ x : Nd, 1 ≤ (enc x).length := fun x => by cases x; simp [enc]
  walk_at "zz"
  intro t0 ht0
  have S0 := same_new (o := .tup [a, .int 1]) ht0
  have h0 : upd H t0 (.tup [a, .int 1]) t0 = some (.tup [a, .int 1]) := upd_same
  have hn0 := hn.mono (TupS.of S0)
  generalize upd H t0 (.tup [a, .int 1]) = H0 at *
  walk_at "zz"
  intro l0 hl0
  have S1 := same_new (o := .lst [.ref t0]) hl0
  have h1 : upd H0 l0 (.lst [.ref t0]) l0 = some (.lst [.ref t0]) := upd_same
  have N1 : WaitD (upd H0 l0 (.lst [.ref t0])) [(n, 1)] [.ref t0] := ⟨t0, a, [], rfl, S1 _ _ h0, hn0.mono (TupS.of S1), rfl⟩
  generalize upd H0 l0 (.lst [.ref t0]) = H1 at *
  walk_at "zz"
  refine s_while (fun M σ' H' => ∃ (lw : Addr) (ws : List V) (wait : List (Nd × Nat)) (dp : Nat) (x3 x4 x5 x6 : Option V), M = sumE wait ∧ Same H H' ∧ H lw = none ∧ H' lw = some (.lst ws) ∧ WaitD H' wait ws ∧ Nat.max dp (mxD wait) = dpn n ∧ sumE wait ≤ 300000 ∧ (∀ e ∈ wait, 1 ≤ e.2) ∧ σ' = [some a, some (.int (dp : Int)), some (.ref lw), x3, x4, x5, x6]) _
    ⟨l0, [.ref t0], [(n, 1)], 0, _, _, _, _, rfl, S0.trans S1, S0.free hl0, h1, N1, by simp [mxD], by simpa [sumE] using hl, by simp, rfl⟩ ?_
  rintro M σ' H2 ⟨lw, ws, wait, dp, x3, x4, x5, x6, rfl, S2, hlw, h2, N2, ef, sm, d1, rfl⟩
  walk_at "zz"
  intro le hle
  have S3 := same_new (o := .lst []) hle
  have h3 : upd H2 le (.lst []) le = some (.lst []) := upd_same
  have h23 := S3 _ _ h2
  have N3 := N2.mono (TupS.of S3)
  generalize upd H2 le (.lst []) = H3 at *
  refine s_neN h23 h3 ?_
  rw [N2.len]
  walk_at "zz"
  have S23 := S2.trans S3
  rcases List.eq_nil_or_concat wait with rfl | ⟨w', x, ew⟩
  · refine s_nft rfl ?_
    walk_at "zz"
    have : dp = dpn n := by rw [← ef]; simp [mxD]
    rw [this]
    exact q H3 S23
  rw [List.concat_eq_append] at ew
  subst ew
  rw [show (!decide ((w' ++ [x]).length = 0)) = true by simp]
  refine s_ift ?_
  obtain ⟨us, t, rfl, hW1, v, hW2, hW3⟩ := N3.last
  obtain ⟨⟨kd, pl, nn, pp⟩, d⟩ := x
  walk_at "zz"
  refine c_pop (z := .ref t) h23 (by simp) fun H4 B4 h4 => ?_
  have T4 : TupS H3 H4 := TupS.but B4 h23 fun ys e => by cases e
  rw [List.dropLast_concat] at h4
  have ht4 := T4 _ _ hW2
  obtain ⟨t2, tn, tp, vs2, rfl, g1, g2, g3, g4⟩ := hW3.mono T4
  have S24 := same_own S23 B4 hlw
  have d1' : 1 ≤ d := d1 (.mk kd pl nn pp, d) (by simp)
  have mx : (if (d : Int) > (dp : Int) then (d : Int) else dp) = ((Nat.max dp d : Nat) : Int) := by
    by_cases c : dp < d
    · rw [if_pos (by omega), show Nat.max dp d = d from Nat.max_eq_right (by omega)]
    · rw [if_neg (by omega), show Nat.max dp d = dp from Nat.max_eq_left (by omega)]
  walk_at "zz"
  refine s_ix_t (SqT.of g1) (v := .ref tp) rfl ?_
  walk_at "zz"
  have gl := g4.len
  have ng : ∀ l : List Nd, l.length ≤ (encs l).length := fun l => by
    induction l with
    | nil => exact Nat.zero_le _
    | cons x l ih =>
      have := pos x
      show l.length + 1 ≤ (enc x ++ encs l).length
      rw [List.length_append]
      omega
  have ngw : ∀ l : List (Nd × Nat), l.length ≤ sumE l := fun l => by
    induction l with
    | nil => exact Nat.zero_le _
    | cons x l ih =>
      have := pos x.1
      show l.length + 1 ≤ (enc x.1).length + sumE l
      omega
  have len : sumE (w' ++ [(.mk kd pl nn pp, d)]) = sumE w' + (1 + nn.length + (encs pp).length) := by
    rw [sumE_app]
    show _ + ((kd :: (nn ++ encs pp)).length + 0) = _
    rw [List.length_cons, List.length_append]
    omega
  rw [len] at sm
  have b1 := ngw w'
  have b2 := ng pp
  have wl := hW1.len
  refine lc_tp vs2 (fun D j H5 => Same H4 H5 ∧ H4 D = none ∧ ∃ ws, H5 D = some (.lst ws) ∧ WaitD H5 ((pp.take j).map fun x => (x, d + 1)) ws) (fun D hD => ⟨same_new hD, hD, [], upd_same, rfl⟩) (fun D j H5 hD hj z => SqT.of (z.1 _ _ g3)) (fun D j x H5 hD hx ⟨S5, hDn, ws, hd, W5⟩ => ?_) (fun D H5 hD ⟨S5, hDn, ws, hd, W5⟩ => ?_)
  · obtain ⟨y, ey, hy⟩ := g4.get hx
    have hj := (List.getElem?_eq_some_iff.mp ey).1
    have wl5 := W5.len
    rw [List.length_map, List.length_take] at wl5
    walk_at "zz"
    intro t5 ht5
    have S6 := same_new (o := .tup [x, .int ((d : Int) + 1)]) ht5
    refine c_acc (S6 _ _ hd) (by omega) fun H7 B7 h7 => ?_
    have T7 := TupS.but B7 (S6 _ _ hd) (by simp)
    have T57 : TupS H5 H7 := (TupS.of S6).trans T7
    refine ⟨same_own (S5.trans S6) B7 hDn, hDn, _, h7, ?_⟩
    rw [List.take_succ_eq_append_getElem hj, (List.getElem?_eq_some_iff.mp ey).2, List.map_append]
    refine (W5.mono T57).append ⟨t5, x, [], rfl, T7 _ _ ?_, (hy.mono (TupS.of S5)).mono T57, rfl⟩
    exact upd_same
  rw [gl, List.take_length] at W5
  refine s_add_l (S5 _ _ h4) hd (by have := W5.len; rw [List.length_map] at this; omega) fun lb hlb => ?_
  have S6 := same_new (o := .lst (us ++ ws)) hlb
  walk_at "zz"
  refine ⟨_, ?_, lb, us ++ ws, w' ++ pp.map fun x => (x, d + 1), Nat.max dp d, some (.ref t2), some (.int (d : Int)), x5, x6, rfl, (S24.trans S5).trans S6, (S24.trans S5).free hlb, upd_same, ?_, ?_, ?_, ?_, ?_⟩
  · rw [len, sumE_app, sumE_parts]; omega
  · exact ((hW1.mono T4).mono (TupS.of (S5.trans S6))).append (W5.mono (TupS.of S6))
  · rw [← ef, mxD_app, mxD_app, mxD_parts]
    show _ = Nat.max dp (Nat.max (mxD w') (Nat.max (d - 1 + (1 + dpns pp)) 0))
    have : Nat.max d (if pp = [] then 0 else d + dpns pp) = d + dpns pp := by
      by_cases c : pp = []
      · rw [if_pos c, c]; simp [dpns]
      · rw [if_neg c]; exact Nat.max_eq_right (by omega)
    rw [show d - 1 + (1 + dpns pp) = d + dpns pp by omega, show Nat.max (d + dpns pp) 0 = d + dpns pp from Nat.max_zero _]
    exact (Nat.max_assoc _ _ _).trans (congrArg (Nat.max dp) ((Nat.max_left_comm _ _ _).trans (congrArg (Nat.max (mxD w')) this)))
  · rw [sumE_app, sumE_parts]; omega
  · intro e he
    rcases List.mem_append.mp he with z | z
    · exact d1 e (List.mem_append_left _ z)
    · obtain ⟨y, _, rfl⟩ := List.mem_map.mp z
      exact Nat.le_add_left 1 d
  · rw [mx]; rfl

theorem rd_Ldepths {Z : Adr} (T : Top Z) {a0 : V} {H : Hp} {Q : VK} {E : XK} (h : q_Ldepths Z a0 H Q E) : t_Ldepths Z (fun cls d _ H => E cls d H) ⟨fun _ H' => Q .non H', Q, fun _ _ => False, fun _ _ => False⟩ [some a0, none, none, none, none] H := by
  unfold t_Ldepths
  obtain ⟨l, vs, bs, k, rfl, hl, N, L, bl, q⟩ := h
  have big : 1000000 ≤ sizeLine := by decide
  have pos : ∀ x : Nd, 1 ≤ (enc x).length := fun x => by cases x; simp [enc]
  walk_at "zz"
  intro lf hlf
  generalize hU : L2.upd H lf _ = H1
  have S1 : _root_.Z.Same H H1 := hU ▸ _root_.Z.same_new hlf
  have h1 := (congrFun hU lf).symm
  rw [L2.upd_same] at h1
  clear hU
  walk_at "zz"
  intro lb hlb
  have S2 := same_new (o := .lst []) hlb
  have h2 : upd H1 lb (.lst []) lb = some (.lst (([] : List Int).map V.int)) := upd_same
  have hf2 := S2 _ _ h1
  have hl2 := S2 _ _ (S1 _ _ hl)
  have N2 := N.mono (TupS.of (S1.trans S2))
  have nfb : lf ≠ lb := ne_of_none h1 hlb
  have nlf : l ≠ lf := ne_of_none hl hlf
  have nlb : l ≠ lb := ne_of_none (S1 _ _ hl) hlb
  have hlb0 := S1.free hlb
  have S02 := S1.trans S2
  generalize upd H1 lb (.lst []) = H2 at *
  walk_at "zz"
  refine loop_list vs (fun i σ' H' => ∃ (us : List V) (x4 : Option V), But2 lf lb H2 H' ∧ H' lf = some (.lst us) ∧ DepsAt H' (((pres bs).take i).foldl stp ([], -1, [])).2.2 us ∧ H' lb = some (.lst ((((pres bs).take i).foldl stp ([], -1, [])).1.map V.int)) ∧ σ' = [some (.ref l), some (.ref lf), some (.ref lb), some (.int (((pres bs).take i).foldl stp ([], -1, [])).2.1), x4])
    ⟨[], _, .of (Same.refl _), hf2, rfl, h2, rfl⟩ (fun i σ' H' hi ⟨us, x4, B, _⟩ => SqL.of (B.rd nlf nlb hl2)) ?_ ?_
  · rintro i v σ' H3 hv ⟨us, x4, B3, hf3, D3, hb3, rfl⟩
    obtain ⟨n, en, hn⟩ := N2.get hv
    have hi := (List.getElem?_eq_some_iff.mp en).1
    rw [List.take_succ_eq_append_getElem hi, (List.getElem?_eq_some_iff.mp en).2, List.foldl_append]
    obtain ⟨sl1, sl2⟩ := stp_len ((pres bs).take i) ([], -1, [])
    rw [List.length_take] at sl1 sl2
    have pl := pres_le bs
    generalize ((pres bs).take i).foldl stp ([], -1, []) = st at *
    obtain ⟨stk, fn, out⟩ := st
    simp only [List.length_nil, Nat.zero_add] at sl1 sl2
    have T3 : TupS H2 H3 := But2.tups B3 hf2 (fun ys e => by cases e) h2 (fun ys e => by cases e)
    have hn3 := hn.mono T3
    obtain ⟨kd, plc, nn, pp⟩ := n
    obtain ⟨t, tn, tp, vs2, rfl, g1, g2, g3, g4⟩ := id hn3
    walk_at "zz"
    refine s_while (fun M σ' H' => ∃ cur : List Int, M = cur.length ∧ popB plc cur = popB plc stk ∧ cur.length ≤ stk.length ∧ But2 lf lb H2 H' ∧ H' lf = some (.lst us) ∧ DepsAt H' out us ∧ H' lb = some (.lst (cur.map V.int)) ∧ NodeAt H' (.mk kd plc nn pp) (.ref t) ∧ σ' = [some (.ref l), some (.ref lf), some (.ref lb), some (.int fn), some (.ref t)]) _
      ⟨stk, rfl, rfl, Nat.le_refl _, B3, hf3, D3, hb3, hn3, rfl⟩ ?_
    clear B3 hf3 D3 hb3 hn3 T3 g1 g2 g3 g4
    rintro M σ' H4 ⟨cur, rfl, epop, lc, B4, hf4, D4, hb4, hn4, rfl⟩
    obtain ⟨t', tn', tp', vs3, et, g1, g2, g3, g4⟩ := id hn4
    cases et
    have exit : ∀ H5 : Hp, popB plc cur = cur → Same H4 H5 → ∃ us5, popB plc stk = cur ∧ But2 lf lb H2 H5 ∧ H5 lf = some (.lst us5) ∧ us5 = us ∧ DepsAt H5 out us ∧ H5 lb = some (.lst (cur.map V.int)) ∧ NodeAt H5 (.mk kd plc nn pp) (.ref t) := fun H5 z S5 => ⟨us, by rw [← epop, z], B4.trans (.of S5), S5 _ _ hf4, rfl, D4.mono (TupS.of S5), S5 _ _ hb4, hn4.mono (TupS.of S5)⟩
    walk_at "zz"
    intro le hle
    have S5 := same_new (o := .lst []) hle
    have h5 : upd H4 le (.lst []) le = some (.lst []) := upd_same
    generalize upd H4 le (.lst []) = H5 at *
    have hb5 := S5 _ _ hb4
    refine s_neN hb5 h5 ?_
    rw [List.length_map]
    walk_at "zz"
    refine s_andj (fun H' => popB plc cur = cur ∧ Same H4 H') (fun H' => (∃ a x, cur = a ++ [x] ∧ x ≤ plc) ∧ Same H4 H') (fun N' n0 n1 => ?_) (fun H6 ⟨⟨a, x, ec, hx⟩, S6⟩ => ?_) (fun H6 ⟨z, S6⟩ => ?_)
    · by_cases c : cur = []
      · refine s_nft (by rw [c]; rfl) ?_
        exact n0 H5 ⟨by rw [c]; rfl, S5⟩
      · obtain ⟨a, x, ec⟩ := snoc_of c
        subst ec
        rw [show (!decide ((a ++ [x]).length = 0)) = true by simp]
        refine s_ift ?_
        have g15 := S5 _ _ g1
        walk_at "zz"
        refine s_ix_t (SqT.of g15) (v := .int plc) rfl ?_
        walk_at "zz"
        refine s_ix_l (SqL.of hb5) (v := .int x) (at_neg1 (by simp)) ?_
        walk_at "zz"
        by_cases d : x ≤ plc
        · rw [decide_eq_true d]
          exact n1 H5 ⟨⟨a, x, rfl, d⟩, S5⟩
        · rw [decide_eq_false d]
          exact n0 H5 ⟨popB_gt a (by omega), S5⟩
    · subst ec
      have hb6 := S6 _ _ hb4
      rw [List.map_append] at hb6
      walk_at "zz"
      refine c_pop (z := .int x) hb6 (by simp) fun H7 B7 h7 => ?_
      rw [show (a.map V.int ++ [x].map V.int).dropLast = a.map V.int by simp] at h7
      have T7 : TupS H6 H7 := TupS.but B7 hb6 (by simp)
      walk_at "zz"
      refine ⟨_, ?_, a, rfl, by rw [← epop, popB_le a hx], ?_, (B4.trans (.of S6)).trans (.right B7), B7.rd nfb (S6 _ _ hf4), (D4.mono (TupS.of S6)).mono T7, h7, (hn4.mono (TupS.of S6)).mono T7, rfl⟩
      · simp
      · rw [List.length_append] at lc; simp at lc; omega
    · have epop : popB plc stk = cur := by rw [← epop, z]
      have hf6 := S6 _ _ hf4
      have hb6 := S6 _ _ hb4
      have D6 := D4.mono (TupS.of S6)
      have hn6 := hn4.mono (TupS.of S6)
      have g16 := S6 _ _ g1
      have B6 : But2 lf lb H2 H6 := B4.trans (.of S6)
      clear exit h5 S5 hb5 hle hn4 g1 g2 g3 g4
      have es : [Nd.mk kd plc nn pp].foldl stp (stk, fn, out) = (cur ++ [plc + ((enc (.mk kd plc nn pp)).length : Nat)], (if cur = [] then fn + 1 else fn), out ++ [(cur.length + 1, if cur = [] then fn + 1 else fn)]) := by
        show stp (stk, fn, out) (.mk kd plc nn pp) = _
        unfold stp
        rw [show popB (Nd.mk kd plc nn pp).place (stk, fn, out).1 = cur from epop]
        rfl
      rw [es]
      generalize hf : (if cur = [] then fn + 1 else fn) = fn' at *
      refine s_cut (fun σ' H' => Same H6 H' ∧ σ' = [some (.ref l), some (.ref lf), some (.ref lb), some (.int fn'), some (.ref t)]) ?_ ?_
      · walk_at "zz"
        intro le hle
        have S7 := same_new (o := .lst []) hle
        have h7 : upd H6 le (.lst []) le = some (.lst []) := upd_same
        generalize upd H6 le (.lst []) = H7 at *
        refine s_eqN (S7 _ _ hb6) h7 ?_
        rw [List.length_map]
        walk_at "zz"
        by_cases c : cur = []
        · rw [if_pos c] at hf
          refine s_ifdt (by rw [c]; rfl) ?_
          walk_at "zz"
          exact ⟨S7, by rw [← hf]; rfl⟩
        · rw [if_neg c] at hf
          refine s_ifdf (fun z => c (List.eq_nil_of_length_eq_zero z)) ?_
          walk_at "zz"
          exact ⟨S7, by rw [← hf]⟩
      rintro σ' H7 ⟨S7, rfl⟩
      have g17 := S7 _ _ g16
      have hb7 := S7 _ _ hb6
      have hf7 := S7 _ _ hf6
      walk_at "zz"
      refine s_ix_t (SqT.of g17) (v := .int plc) rfl ?_
      walk_at "zz"
      refine cl_Lmany ⟨.ref t, .mk kd plc nn pp, rfl, hn6.mono (TupS.of S7), Nat.le_trans (enc_mem en) bl, fun H8 S8 => ?_⟩
      have hb8 := S8 _ _ hb7
      have hf8 := S8 _ _ hf7
      walk_at "zz"
      refine c_append hb8 (by rw [List.length_map]; omega) fun H9 B9 h9 => ?_
      have hf9 := B9.rd nfb hf8
      have T9 : TupS H8 H9 := TupS.but B9 hb8 (by simp)
      walk_at "zz"
      intro tt htt
      rw [List.length_append, List.length_map, List.length_singleton] at *
      have S10 := same_new (o := .tup [.int ((cur.length + 1 : Nat) : Int), .int fn']) htt
      have h10 : upd H9 tt (.tup [.int ((cur.length + 1 : Nat) : Int), .int fn']) tt = some (.tup [.int ((cur.length + 1 : Nat) : Int), .int fn']) := upd_same
      generalize upd H9 tt (.tup [.int ((cur.length + 1 : Nat) : Int), .int fn']) = H10 at *
      have hf10 := S10 _ _ hf9
      have hb10 := S10 _ _ h9
      have D10 : DepsAt H10 out us := (((D6.mono (TupS.of (S7.trans S8))).mono T9).mono (TupS.of S10))
      walk_at "zz"
      refine c_append hf10 (by rw [D10.len]; omega) fun H11 B11 h11 => ?_
      have T11 : TupS H10 H11 := TupS.but B11 hf10 (by simp)
      refine ⟨us ++ [.ref tt], some (.ref t), ((B6.trans (.of (S7.trans S8))).trans (.right B9)).trans ((But2.of S10).trans (.left B11)), h11, (D10.mono T11).app (T11 _ _ h10), ?_, rfl⟩
      rw [B11.rd nfb.symm hb10, List.map_append]
      rfl
  rintro σ' H3 ⟨us, x4, B3, hf3, D3, hb3, rfl⟩
  rw [N.len, List.take_length] at *
  obtain ⟨T', h⟩ := stp_b bs k [] (-1) [] L (fun x hx => by cases hx)
  rw [h] at D3
  walk_at "zz"
  exact q lf us H3 (same_two S02 B3 hlf hlb0) hlf hf3 D3

theorem rd_Lin_function {Z : Adr} (T : Top Z) {a0 a1 : V} {H : Hp} {Q : VK} {E : XK} (h : q_Lin_function Z a0 a1 H Q E) : t_Lin_function Z (fun cls d _ H => E cls d H) ⟨fun _ H' => Q .non H', Q, fun _ _ => False, fun _ _ => False⟩ [some a0, some a1, none, none] H := by
  unfold t_Lin_function
  obtain ⟨ld, us, ds, f, rfl, rfl, hl, D, bl, q⟩ := h
  have big : 1000000 ≤ sizeLine := by decide
  have dl := D.len
  walk_at "zz"
  rw [dl]
  refine lc_rng (fun L i H' => Same H H' ∧ H L = none ∧ H' L = some (.lst ((inF ds f i).map V.int))) (fun L hL => ⟨same_new hL, hL, upd_same⟩) ?_ ?_
  · rintro L i H2 hL hi ⟨S2, hLn, h2⟩
    have hi : i < ds.length := hi
    obtain ⟨t, et, ht⟩ := (D.mono (TupS.of S2)).get (List.getElem?_eq_getElem hi)
    rw [show (0 : Int) + (i : Int) = i by omega]
    walk_at "zz"
    refine s_ixN (SqL.of (S2 _ _ hl)) et ?_
    walk_at "zz"
    refine s_ix_t (SqT.of ht) (v := .int ds[i].2) rfl ?_
    walk_at "zz"
    have gd : ds.getD i (0, -1) = ds[i] := by rw [List.getD_eq_getElem?_getD, List.getElem?_eq_getElem hi]; rfl
    have step : inF ds f (i + 1) = inF ds f i ++ (if ds[i].2 = f then [(i : Int)] else []) := by
      unfold inF
      rw [List.range_succ, List.filter_append, List.map_append, List.filter_cons, List.filter_nil, gd]
      by_cases c : ds[i].2 = f
      · rw [if_pos c, if_pos (decide_eq_true c)]; rfl
      · rw [if_neg c, if_neg (by rw [decide_eq_true_eq]; exact c)]; rfl
    rw [step]
    have il : (inF ds f i).length ≤ i := by
      unfold inF
      rw [List.length_map]
      exact Nat.le_trans (List.length_filter_le _ _) (by rw [List.length_range]; exact Nat.le_refl _)
    by_cases c : ds[i].2 = f
    · rw [if_pos c]
      refine s_ifdt c ?_
      walk_at "zz"
      refine c_acc h2 (by rw [List.length_map]; omega) fun H3 B3 h3 => ?_
      exact ⟨same_own S2 B3 hLn, hLn, by rw [h3, List.map_append]; rfl⟩
    · rw [if_neg c, List.append_nil]
      refine s_ifdf c ?_
      exact ⟨S2, hLn, h2⟩
  · rintro L H2 hL ⟨S2, hLn, h2⟩
    exact q L H2 S2 hLn h2

theorem rd_Lheads_of {Z : Adr} (T : Top Z) {a0 : V} {H : Hp} {Q : VK} {E : XK} (h : q_Lheads_of Z a0 H Q E) : t_Lheads_of Z (fun cls d _ H => E cls d H) ⟨fun _ H' => Q .non H', Q, fun _ _ => False, fun _ _ => False⟩ [some a0, none, none] H := by
  unfold t_Lheads_of
  obtain ⟨ls, xs, hs, bs, rfl, hl, e, q⟩ := h
  have big : 1000000 ≤ sizeLine := by decide
  have ex := funs_eq e
  have F := funsP_okn e
  have n16 := F.h.2.1
  walk_at "zz"
  refine s_ix_l (SqL.of hl) (v := .int (hs.length : Int)) (at_of (j := 0) (by decide) (by rw [ex]; rfl)) ?_
  walk_at "zz"
  refine lc_rng (fun L i H' => Same H H' ∧ H L = none ∧ ∃ vs, H' L = some (.lst vs) ∧ PairsAt H' (hs.take i) vs) (fun L hL => ⟨same_new hL, hL, [], upd_same, rfl⟩) ?_ ?_
  · rintro L i H2 hL hi ⟨S2, hLn, vs, h2, P2⟩
    have hi : i < hs.length := hi
    rw [show (0 : Int) + (i : Int) = i by omega]
    have at1 : ∀ j : Nat, (xs.map V.int)[1 + j]? = ((flat hs ++ encs bs)[j]?).map V.int := fun j => by
      rw [ex, List.getElem?_map, Nat.add_comm, List.getElem?_cons_succ]
    have fl := flat_at (r := encs bs) (List.getElem?_eq_getElem hi)
    walk_at "zz"
    rw [show (1 : Int) + 2 * (i : Int) = ((1 + 2 * i : Nat) : Int) by omega]
    refine s_ixN (SqL.of (S2 _ _ hl)) (v := .int hs[i].1) (by rw [at1, fl.1]; rfl) ?_
    walk_at "zz"
    rw [show (2 : Int) + 2 * (i : Int) = ((1 + (2 * i + 1) : Nat) : Int) by omega]
    refine s_ixN (SqL.of (S2 _ _ hl)) (v := .int hs[i].2) (by rw [at1, fl.2]; rfl) ?_
    walk_at "zz"
    intro t ht
    have S3 := same_new (o := .tup [.int hs[i].1, .int hs[i].2]) ht
    have vl := P2.len
    rw [List.length_take] at vl
    refine c_acc (S3 _ _ h2) (by omega) fun H4 B4 h4 => ?_
    have T4 := TupS.but B4 (S3 _ _ h2) (by simp)
    refine ⟨same_own (S2.trans S3) B4 hLn, hLn, _, h4, ?_⟩
    rw [List.take_succ_eq_append_getElem hi]
    exact ((P2.mono (TupS.of S3)).mono T4).app (T4 _ _ upd_same)
  · rintro L H2 hL ⟨S2, hLn, vs, h2, P2⟩
    rw [Int.toNat_natCast, List.take_length] at P2
    exact q L vs H2 S2 hLn h2 P2

theorem rd_Lput {Z : Adr} (T : Top Z) {a0 a1 a2 : V} {H : Hp} {Q : VK} {E : XK} (h : q_Lput Z a0 a1 a2 H Q E) : t_Lput Z (fun cls d _ H => E cls d H) ⟨fun _ H' => Q .non H', Q, fun _ _ => False, fun _ _ => False⟩ [some a0, some a1, some a2, none] H := by
  unfold t_Lput
  obtain ⟨ls, ly, v, xs, ys, n, p, rfl, ev, rfl, hl, hy, hn, ep, fit, xl, yl, q⟩ := h
  rw [ev]
  clear ev
  have big : 1000000 ≤ sizeLine := by decide
  obtain ⟨kd, pl, nn, pp⟩ := n
  obtain ⟨t, tn, tp, vs2, rfl, g1, g2, g3, g4⟩ := id hn
  obtain rfl : pl = (p : Int) := ep
  walk_at "zz"
  refine s_ix_t (SqT.of g1) (v := .int (p : Int)) rfl ?_
  walk_at "zz"
  refine cl_Lmany ⟨.ref t, _, rfl, hn, by omega, fun H1 S1 => ?_⟩
  have g11 := S1 _ _ g1
  have hl1 := S1 _ _ hl
  have hy1 := S1 _ _ hy
  walk_at "zz"
  refine s_ix_t (SqT.of g11) (v := .int (p : Int)) rfl ?_
  walk_at "zz"
  intro a1 ha1
  rw [cut_takeI] at *
  generalize hU : L2.upd H1 a1 _ = H2
  have S2 : _root_.Z.Same H1 H2 := hU ▸ _root_.Z.same_new ha1
  have h2 := (congrFun hU a1).symm
  rw [L2.upd_same] at h2
  clear hU
  walk_at "zz"
  refine s_add_l h2 (S2 _ _ hy1) (by rw [List.length_map, List.length_map, List.length_take]; omega) fun a2 ha2 => ?_
  generalize hU : L2.upd H2 a2 _ = H3
  have S3 : _root_.Z.Same H2 H3 := hU ▸ _root_.Z.same_new ha2
  have h3 := (congrFun hU a2).symm
  rw [L2.upd_same] at h3
  clear hU
  have hl3 := S3 _ _ (S2 _ _ hl1)
  walk_at "zz"
  intro a3 ha3
  rw [show (p : Int) + ((enc (.mk kd (p : Int) nn pp)).length : Nat) = ((p + (enc (.mk kd (p : Int) nn pp)).length : Nat) : Int) by omega, cut_dropI] at *
  generalize hU : L2.upd H3 a3 _ = H4
  have S4 : _root_.Z.Same H3 H4 := hU ▸ _root_.Z.same_new ha3
  have h4 := (congrFun hU a3).symm
  rw [L2.upd_same] at h4
  clear hU
  refine s_add_l (S4 _ _ h3) h4 (by rw [List.length_append, List.length_map, List.length_map, List.length_map, List.length_take, List.length_drop]; omega) fun a4 ha4 => ?_
  have S5 := same_new (o := .lst ((xs.take p).map V.int ++ ys.map V.int ++ (xs.drop (p + (enc (.mk kd (p : Int) nn pp)).length)).map V.int)) ha4
  have S15 := ((S1.trans S2).trans S3).trans S4
  exact q a4 _ (S15.trans S5) (S15.free ha4) (by rw [upd_same, List.map_append, List.map_append])

theorem rd_Lall_bare {Z : Adr} (T : Top Z) {a0 : V} {H : Hp} {Q : VK} {E : XK} (h : q_Lall_bare Z a0 H Q E) : t_Lall_bare Z (fun cls d _ H => E cls d H) ⟨fun _ H' => Q .non H', Q, fun _ _ => False, fun _ _ => False⟩ [some a0, none, none] H := by
  unfold t_Lall_bare
  obtain ⟨l, vs, ns, rfl, hl, N, bl, q⟩ := h
  have big : 1000000 ≤ sizeLine := by decide
  have nl := N.len
  walk_at "zz"
  refine lc_lst vs (fun L i H' => Same H H' ∧ H L = none ∧ ∃ us, H' L = some (.lst us) ∧ BareAt H' ((ns.map bare).take i) us) (fun L hL => ⟨same_new hL, hL, [], upd_same, rfl⟩) (fun L i H' hL hi z => SqL.of (z.1 _ _ hl)) ?_ ?_
  · rintro L i v H2 hL hv ⟨S2, hLn, us, h2, B2⟩
    obtain ⟨n, en, hn⟩ := N.get hv
    have hi := (List.getElem?_eq_some_iff.mp en).1
    obtain ⟨kd, pl, nn, pp⟩ := n
    obtain ⟨t, tn, tp, vs2, rfl, g1, g2, g3, g4⟩ := hn.mono (TupS.of S2)
    walk_at "zz"
    refine s_ix_t (SqT.of g1) (v := .int kd) rfl ?_
    walk_at "zz"
    refine s_ix_t (SqT.of g1) (v := .ref tn) rfl ?_
    walk_at "zz"
    intro t3 ht3
    have S3 := same_new (o := .tup [.int kd, .ref tn]) ht3
    have ul := B2.len
    rw [List.length_take, List.length_map] at ul
    refine c_acc (S3 _ _ h2) (by omega) fun H4 B4 h4 => ?_
    have T4 := TupS.but B4 (S3 _ _ h2) (by simp)
    refine ⟨same_own (S2.trans S3) B4 hLn, hLn, _, h4, ?_⟩
    rw [List.take_succ_eq_append_getElem (by rw [List.length_map]; exact hi), List.getElem_map, (List.getElem?_eq_some_iff.mp en).2]
    exact ((B2.mono (TupS.of S3)).mono T4).app (b := (kd, nn)) (T4 _ _ upd_same) (T4 _ _ (S3 _ _ g2))
  · rintro L H2 hL ⟨S2, hLn, us, h2, B2⟩
    rw [nl, ← List.length_map bare, List.take_length] at B2
    exact q L us H2 S2 hLn h2 B2

theorem rd_Lexchanged {Z : Adr} (T : Top Z) {a0 a1 a2 a3 a4 : V} {H : Hp} {Q : VK} {E : XK} (h : q_Lexchanged Z a0 a1 a2 a3 a4 H Q E) : t_Lexchanged Z (fun cls d _ H => E cls d H) ⟨fun _ H' => Q .non H', Q, fun _ _ => False, fun _ _ => False⟩ [some a0, some a1, some a2, some a3, some a4, none, none, none, none, none, none, none, none, none, none, none, none] H := by
  unfold t_Lexchanged
  obtain ⟨ls, lm, ly, xs, hs, bs, vs, i, m, l, r, c, hd, t, rfl, rfl, rfl, rfl, rfl, hl, e, xl, hm, N, em, W, hy, yl, ok, q⟩ := h
  have big : 1000000 ≤ sizeLine := by decide
  have F := funsP_okn e
  have n16 := F.h.2.1
  have nl := N.len
  have cov := funs_cov e
  have ex := funs_eq e
  have exl : 1 + 2 * hs.length + (encs bs).length = xs.length := by rw [ex, List.length_cons, List.length_append, flat_len]; omega
  have hi := (List.getElem?_eq_some_iff.mp em).1
  have pl := pres_le bs
  obtain ⟨vm, evm⟩ : ∃ v, vs[i]? = some v := ⟨_, List.getElem?_eq_getElem (by omega)⟩
  obtain ⟨m', em', hm'⟩ := N.get evm
  rw [em] at em'
  cases em'
  have mle := enc_mem em
  obtain ⟨p, ep⟩ : ∃ p : Nat, m.place = (p : Int) := ⟨_, W.px⟩
  walk_at "zz"
  refine s_ixN (m := i) (SqL.of hm) evm ?_
  walk_at "zz"
  refine cl_Ldepths ⟨lm, vs, bs, 1 + 2 * hs.length, rfl, hm, N, (cov_l bs cov).1, by omega, fun ld us H1 S1 hd0 hd1 D1 => ?_⟩
  obtain ⟨td, etd, htd⟩ := D1.get W.dx
  walk_at "zz"
  refine s_ixN (m := i) (SqL.of hd1) etd ?_
  walk_at "zz"
  refine s_ix_t (SqT.of htd) (v := .int ((1 + c.length : Nat) : Int)) rfl ?_
  have hm1 := S1 _ _ hm
  have N1 := N.mono (TupS.of S1)
  have mN1 := hm'.mono (TupS.of S1)
  obtain ⟨pu1, pu2, pu3⟩ := W.put e p ep (enc t)
  walk_at "zz"
  refine cl_Lput ⟨ls, ly, vm, xs, enc t, m, p, rfl, rfl, rfl, S1 _ _ hl, S1 _ _ hy, mN1, ep, pu2, by omega, by omega, fun l2 H2 S2 hn2 h2 => ?_⟩
  rw [pu1] at h2
  have S12 := S1.trans S2
  walk_at "zz"
  by_cases bg : 10 < c.length + dpn t
  · obtain ⟨z, hz⟩ := W.deep e ok bg
    refine cl_wrong ⟨l2, _, rfl, SqL.of h2, fun rr er H3 S3 => ?_, fun er ee u H3 S3 hu => ?_⟩
    · rw [hz] at er; cases er
    rw [hz] at ee
    cases ee
    walk_at "zz"
    refine s_ifdt (by omega) ?_
    walk_at "zz"
    refine s_ix_t (SqT.of hu) (v := .str "deep") rfl ?_
    walk_at "zz"
    rw [show decide (("deep" : Str) = "deep") = true by decide +kernel]
    exact q H3 (S12.trans S3)
  obtain ⟨bs', f', bare', m2, em2, enc2⟩ := W.ok e ok (by omega)
  refine cl_wrong ⟨l2, _, rfl, SqL.of h2, fun rr er H3 S3 => ?_, fun er ee u H3 S3 hu => ?_⟩
  rotate_left
  · rw [f'] at ee; cases ee
  have S13 := S12.trans S3
  have mN3 := mN1.mono (TupS.of (S2.trans S3))
  obtain ⟨kd, plc, nn, pp⟩ := m
  obtain rfl : plc = (p : Int) := ep
  obtain ⟨tm, tn, tp, vs4, rfl, g1, g2, g3, g4⟩ := id mN3
  walk_at "zz"
  refine s_ifdf (by omega) ?_
  walk_at "zz"
  refine s_ix_t (SqT.of g1) (v := .int (p : Int)) rfl ?_
  walk_at "zz"
  refine cl_Lmany ⟨.ref tm, _, rfl, mN3, by omega, fun H4 S4 => ?_⟩
  have S14 := S13.trans S4
  have hm4 := S14 _ _ hm
  have N4 := N.mono (TupS.of S14)
  have g14 := S4 _ _ g1
  walk_at "zz"
  have hb : (pres bs).map bare = BA l c ++ ((pre (.mk kd (p : Int) nn pp)).map bare ++ BB c r) := by rw [W.eb, bares_mid]
  have bll : ((pres bs).map bare).length = (pres bs).length := by rw [List.length_map]
  have hbl := congrArg List.length hb
  rw [List.length_append, List.length_append, List.length_map, List.length_map, W.ix] at hbl
  have s0 : sumS ((pres bs).map bare) i = ((BA l c).flatMap encB).length := by
    unfold sumS
    rw [hb, ← W.ix, List.take_left]
  have s1 : sumS ((pres bs).map bare) (i + (pre (.mk kd (p : Int) nn pp)).length) = ((BA l c).flatMap encB).length + (enc (.mk kd (p : Int) nn pp)).length := by
    unfold sumS
    have : (BA l c ++ ((pre (.mk kd (p : Int) nn pp)).map bare ++ BB c r)).take (i + (pre (.mk kd (p : Int) nn pp)).length) = BA l c ++ (pre (.mk kd (p : Int) nn pp)).map bare := by
      rw [← W.ix, ← List.append_assoc, List.take_left' (by rw [List.length_append, List.length_map])]
    rw [hb, this, List.flatMap_append, List.length_append, ← enc_bare]
  have wp := W.px
  have wp : (p : Int) = ((1 + 2 * hs.length + ((BA l c).flatMap encB).length : Nat) : Int) := wp
  generalize hmm : (pre (.mk kd (p : Int) nn pp)).length = mm at *
  generalize hel : (enc (.mk kd (p : Int) nn pp)).length = el at *
  refine lc_lst vs (fun D j H' => Same H4 H' ∧ H4 D = none ∧ ∃ ws, H' D = some (.lst ws) ∧ ws.length = min (j - i) mm) (fun D hD => ⟨same_new hD, hD, [], upd_same, by simp⟩) (fun D j H' hD hj z => SqL.of (z.1 _ _ hm4)) (fun D j v H5 hD hv ⟨S5, hDn, ws, h5, wl⟩ => ?_) (fun D H5 hD ⟨S5, hDn, ws, h5, wl⟩ => ?_)
  · obtain ⟨nj, enj, hnj⟩ := N4.get hv
    have hj := (List.getElem?_eq_some_iff.mp enj).1
    have pj := cov_place cov enj
    rw [List.map_take] at pj
    obtain ⟨kj, plj, nnj, ppj⟩ := nj
    obtain ⟨tj, tnj, tpj, vsj, rfl, q1, q2, q3, q4⟩ := hnj.mono (TupS.of S5)
    have pj : plj = ((1 + 2 * hs.length + sumS ((pres bs).map bare) j : Nat) : Int) := pj
    have i1 := sumS_le (bs := (pres bs).map bare) (a := i) (b := j) (by omega) (by omega)
    have i2 := sumS_iff (bs := (pres bs).map bare) (a := j) (b := i + mm) (by omega) (by omega)
    rw [s0] at i1
    rw [s1] at i2
    walk_at "zz"
    refine s_ix_t (SqT.of (S5 _ _ g14)) (v := .int (p : Int)) rfl ?_
    walk_at "zz"
    refine s_ix_t (SqT.of q1) (v := .int plj) rfl ?_
    walk_at "zz"
    by_cases c1 : i ≤ j
    · refine s_ifdt (by have := i1.mpr c1; omega) ?_
      walk_at "zz"
      by_cases c2 : j < i + mm
      · refine s_ifdt (by have := i2.mpr c2; omega) ?_
        walk_at "zz"
        refine c_acc h5 (by omega) fun H6 B6 h6 => ?_
        exact ⟨same_own S5 B6 hDn, hDn, _, h6, by rw [List.length_append, wl, List.length_singleton]; omega⟩
      · refine s_ifdf (fun z => c2 (i2.mp (by omega))) ?_
        exact ⟨S5, hDn, ws, h5, by rw [wl]; omega⟩
    · refine s_ifdf (fun z => c1 (i1.mp (by omega))) ?_
      walk_at "zz"
      exact ⟨S5, hDn, ws, h5, by rw [wl]; omega⟩
  have wl2 : ws.length = mm := by omega
  have S15 := S14.trans S5
  walk_at "zz"
  rw [wl2]
  refine cl_nodes ⟨l2, _, rfl, SqL.of ((S3.trans (S4.trans S5)) _ _ h2), ?_, fun hs2 bs2 f2 l3 ws3 H6 S6 hn3 h63 N6 => ?_, fun er ee => ?_⟩
  · have xl2 := congrArg List.length (W.list e)
    simp only [List.length_append, head_len] at xl2 ⊢
    omega
  rotate_left
  · rw [f'] at ee; cases ee
  rw [f'] at f2
  obtain ⟨rfl, rfl⟩ := Prod.mk.inj (Except.ok.inj f2)
  have hm6 := (S15.trans S6) _ _ hm
  have N16 := N.mono (TupS.of (S15.trans S6))
  walk_at "zz"
  intro a1 ha1
  rw [cut_tk] at *
  generalize hU : L2.upd H6 a1 _ = H7
  have S7 : _root_.Z.Same H6 H7 := hU ▸ _root_.Z.same_new ha1
  have h7 := (congrFun hU a1).symm
  rw [L2.upd_same] at h7
  clear hU
  have tl3 := N6.len
  have tl4 := congrArg List.length bare'
  rw [List.length_map, List.length_append, List.length_append, List.length_map, W.ix] at tl4
  have tsz : (pres bs').length ≤ 300000 := by
    have := funs_eq f'
    have l1 := congrArg List.length this
    have xl2 := congrArg List.length (W.list e)
    simp only [List.length_append, head_len, List.length_cons, flat_len] at l1 xl2
    have := pres_le bs'
    omega
  walk_at "zz"
  refine cl_Lall_bare ⟨a1, _, _, rfl, h7, (N6.mono (TupS.of S7)).tk i, by rw [List.length_take]; omega, fun b1 us1 H8 S8 hb10 hb1 B1 => ?_⟩
  have hm8 := (S7.trans S8) _ _ hm6
  walk_at "zz"
  intro a2 ha2
  rw [cut_tk] at *
  generalize hU : L2.upd H8 a2 _ = H9
  have S9 : _root_.Z.Same H8 H9 := hU ▸ _root_.Z.same_new ha2
  have h9 := (congrFun hU a2).symm
  rw [L2.upd_same] at h9
  clear hU
  refine cl_Lall_bare ⟨a2, _, _, rfl, h9, (N16.mono (TupS.of ((S7.trans S8).trans S9))).tk i, by rw [List.length_take]; omega, fun b2 us2 H10 S10 hb20 hb2 B2 => ?_⟩
  have e1 : ((pres bs').take i).map bare = BA l c := by rw [List.map_take, bare', ← W.ix, List.take_left]
  have e2 : ((pres bs).take i).map bare = BA l c := by rw [List.map_take, hb, ← W.ix, List.take_left]
  rw [e1] at B1
  rw [e2] at B2
  refine s_ne_d (d := .list ((BA l c).map brD)) (e := .list ((BA l c).map brD)) (.lst (SqL.of ((S9.trans S10) _ _ hb1)) (B1.mono (TupS.of (S9.trans S10))).dp) (.lst (SqL.of hb2) B2.dp) ((br_sh _).shaped (by decide)) ((br_sh _).shaped (by decide)) ?_
  rw [(br_sh _).refl]
  have S610 := (((S7.trans S8).trans S9).trans S10)
  have h610 := S610 _ _ h63
  have hm10 := S610 _ _ hm6
  walk_at "zz"
  intro a3 ha3
  rw [show ((ws3.length : Nat) : Int) - ((vs.length : Nat) - (i : Int) - (mm : Nat)) = ((i + (pre t).length : Nat) : Int) by omega, cut_dr] at *
  generalize hU : L2.upd H10 a3 _ = H11
  have S11 : _root_.Z.Same H10 H11 := hU ▸ _root_.Z.same_new ha3
  have h11 := (congrFun hU a3).symm
  rw [L2.upd_same] at h11
  clear hU
  have N611 := N6.mono (TupS.of (S610.trans S11))
  walk_at "zz"
  refine cl_Lall_bare ⟨a3, _, _, rfl, h11, N611.dr _, by rw [List.length_drop]; omega, fun b3 us3 H12 S12' hb30 hb3 B3 => ?_⟩
  have hm12 := (S11.trans S12') _ _ hm10
  walk_at "zz"
  intro a4 ha4
  rw [show (i : Int) + (mm : Nat) = ((i + mm : Nat) : Int) by omega, cut_dr] at *
  generalize hU : L2.upd H12 a4 _ = H13
  have S13' : _root_.Z.Same H12 H13 := hU ▸ _root_.Z.same_new ha4
  have h13 := (congrFun hU a4).symm
  rw [L2.upd_same] at h13
  clear hU
  have S613 := ((S610.trans S11).trans S12').trans S13'
  refine cl_Lall_bare ⟨a4, _, _, rfl, h13, (N16.mono (TupS.of S613)).dr _, by rw [List.length_drop]; omega, fun b4 us4 H14 S14' hb40 hb4 B4 => ?_⟩
  have e3 : ((pres bs').drop (i + (pre t).length)).map bare = BB c r := by
    rw [List.map_drop, bare', ← W.ix, ← List.append_assoc, List.drop_left' (by rw [List.length_append, List.length_map])]
  have e4 : ((pres bs).drop (i + mm)).map bare = BB c r := by
    rw [List.map_drop, hb, ← W.ix, ← List.append_assoc, List.drop_left' (by rw [List.length_append, List.length_map, hmm])]
  rw [e3] at B3
  rw [e4] at B4
  refine s_ne_d (d := .list ((BB c r).map brD)) (e := .list ((BB c r).map brD)) (.lst (SqL.of ((S13'.trans S14') _ _ hb3)) (B3.mono (TupS.of (S13'.trans S14'))).dp) (.lst (SqL.of hb4) B4.dp) ((br_sh _).shaped (by decide)) ((br_sh _).shaped (by decide)) ?_
  rw [(br_sh _).refl]
  have S614 := S613.trans S14'
  have S04 := (S15.trans S6).trans S614
  have S414 : Same H4 H14 := (S5.trans S6).trans S614
  have g144 := S414 _ _ g14
  walk_at "zz"
  refine s_ix_t (SqT.of g144) (v := .int (p : Int)) rfl ?_
  walk_at "zz"
  refine s_ix_t (SqT.of g144) (v := .int (p : Int)) rfl ?_
  walk_at "zz"
  refine cl_Lmany ⟨.ref tm, _, rfl, mN3.mono (TupS.of (S4.trans S414)), by rw [hel]; omega, fun H15 S15' => ?_⟩
  rw [hel]
  have hl15 := (S04.trans S15') _ _ hl
  walk_at "zz"
  intro a5 ha5
  have ec : cutV (xs.map V.int) (some (p : Int)) (some ((p : Int) + (el : Nat))) = (enc (.mk kd (p : Int) nn pp)).map V.int := by
    rw [show (p : Int) + (el : Nat) = ((p + el : Nat) : Int) by omega, cut_nat (by omega) (by rw [List.length_map]; omega), ← List.map_drop, ← List.map_take, Nat.add_sub_cancel_left, pu3]
  rw [ec] at *
  generalize hU : L2.upd H15 a5 _ = H16
  have S16 : _root_.Z.Same H15 H16 := hU ▸ _root_.Z.same_new ha5
  have h16 := (congrFun hU a5).symm
  rw [L2.upd_same] at h16
  clear hU
  obtain ⟨v2, ev2⟩ : ∃ v, ws3[i]? = some v := ⟨_, List.getElem?_eq_getElem (by rw [tl3]; exact (List.getElem?_eq_some_iff.mp em2).1)⟩
  have S616 := (S614.trans S15').trans S16
  obtain ⟨m3, em3, hm3⟩ := (N6.mono (TupS.of S616)).get ev2
  rw [em2] at em3
  cases em3
  have pm2 := cov_place (funs_cov f') em2
  rw [e1] at pm2
  have pe : 1 + 2 * hs.length + ((BA l c).flatMap encB).length = p := by omega
  rw [pe] at pm2
  have l26 : H16 l2 = _ := ((((S3.trans (S4.trans S5)).trans S6).trans S616)) _ _ h2
  have nl2 : (((hs.length : Int) :: flat hs) ++ ((BA l c).flatMap encB ++ (enc t ++ (BB c r).flatMap encB))).length = p + ((enc t).length + ((BB c r).flatMap encB).length) := by
    rw [List.length_append, head_len, List.length_append, List.length_append]; omega
  have xl2 := congrArg List.length (W.list e)
  rw [List.length_append, head_len, List.length_append, List.length_append, hel] at xl2
  walk_at "zz"
  refine s_ixN (m := i) (SqL.of (S616 _ _ h63)) ev2 ?_
  walk_at "zz"
  refine cl_Lput ⟨l2, a5, v2, _, _, m2, p, rfl, rfl, rfl, l26, h16, hm3, pm2, by rw [nl2, enc2]; omega, by rw [nl2]; omega, by rw [hel]; omega, fun l7 H17 S17 hn7 h17 => ?_⟩
  have back : (((hs.length : Int) :: flat hs) ++ ((BA l c).flatMap encB ++ (enc t ++ (BB c r).flatMap encB))).take p ++ enc (.mk kd (p : Int) nn pp) ++ (((hs.length : Int) :: flat hs) ++ ((BA l c).flatMap encB ++ (enc t ++ (BB c r).flatMap encB))).drop (p + (enc m2).length) = xs := by
    have key : ∀ ym : List Int, (((hs.length : Int) :: flat hs) ++ ((BA l c).flatMap encB ++ (enc t ++ (BB c r).flatMap encB))).take p ++ ym ++ (((hs.length : Int) :: flat hs) ++ ((BA l c).flatMap encB ++ (enc t ++ (BB c r).flatMap encB))).drop (p + (enc m2).length) = ((hs.length : Int) :: flat hs) ++ ((BA l c).flatMap encB ++ (ym ++ (BB c r).flatMap encB)) := fun ym => by
      have e5 : ((hs.length : Int) :: flat hs) ++ ((BA l c).flatMap encB ++ (enc t ++ (BB c r).flatMap encB)) = (((hs.length : Int) :: flat hs) ++ (BA l c).flatMap encB) ++ (enc t ++ (BB c r).flatMap encB) := by simp
      have e6 : p = (((hs.length : Int) :: flat hs) ++ (BA l c).flatMap encB).length := by rw [List.length_append, head_len]; omega
      rw [e5, enc2, ← List.drop_drop]
      conv => lhs; rw [e6]
      rw [List.take_left, List.drop_left, List.drop_left]
      simp
    rw [key]
    exact (W.list e).symm
  rw [back] at h17
  walk_at "zz"
  have shx : Sh 1 (.list (xs.map PyData.int)) := Sh.list fun d hd => sh_ints _ d hd
  refine s_eq_d (d := .list (xs.map PyData.int)) (e := .list (xs.map PyData.int)) (.lst (SqL.of h17) (dp_ints _)) (.lst (SqL.of ((S16.trans S17) _ _ hl15)) (dp_ints _)) (shx.shaped (by decide)) (shx.shaped (by decide)) ?_
  rw [shx.refl]
  exact q H17 (((S04.trans S15').trans S16).trans S17)

theorem rd_law {Z : Adr} (T : Top Z) {a0 : V} {H : Hp} {Q : VK} {E : XK} (h : q_law Z a0 H Q E) : t_law Z (fun cls d _ H => E cls d H) ⟨fun _ H' => Q .non H', Q, fun _ _ => False, fun _ _ => False⟩ [some a0, none, none, none, none, none, none, none, none, none, none, none, none, none, none, none] H := by
  unfold t_law
  obtain ⟨a, ns, rfl, hO, hS, hns, q⟩ := h
  walk_at "zz"
  intro p hp
  have hSt : St3 Z.K (upd H p (.lst [.ref a, .int 0, .int 0])) p := ⟨a, ns, 0, 0, hS.same (same_new hp), by omega, by omega, upd_same⟩
  have big : 1000000 ≤ sizeLine := by decide
  walk_at "zz"
  refine cl_Lsheet ⟨p, 14, rfl, rfl, by omega, by omega, hSt, fun ls xs hs bs H1 hls0 hls e hlen P1 B1 => ?_⟩
  have nls := hSt.ne hls0
  have F := funsP_okn e
  have cov := funs_cov e
  have ex := funs_eq e
  have exl : 1 + 2 * hs.length + (encs bs).length = xs.length := by rw [ex, List.length_cons, List.length_append, flat_len]; omega
  have plb := pres_le bs
  clear hSt
  walk_at "zz"
  refine cl_Lheads_of ⟨ls, xs, hs, bs, rfl, hls, e, fun lh vh H2 S2 hlh0 hlh PH => ?_⟩
  have nlh := P1.ne hlh0
  have P2 := P1.same S2
  have hls2 := S2 _ _ hls
  walk_at "zz"
  refine cl_Lsheet_with ⟨p, lh, 9, hs, vh, rfl, rfl, rfl, by omega, by omega, F.h, hlh, PH, nlh, P2, fun lo ys cs H3 hlo0 hlo e' hlen' P3 B3 => ?_⟩
  have nlo := P2.ne hlo0
  have hls3 := B3.rd nls hls2
  have F' := funsP_okn e'
  have cov' := funs_cov e'
  have ex' := funs_eq e'
  have exl' : 1 + 2 * hs.length + (encs cs).length = ys.length := by rw [ex', List.length_cons, List.length_append, flat_len]; omega
  have plc := pres_le cs
  walk_at "zz"
  refine cl_nodes ⟨ls, xs, rfl, SqL.of hls3, by omega, fun hs2 bs2 f2 lm vs H4 S4 hlm0 hlm N4 => ?_, fun er ee => by rw [e] at ee; cases ee⟩
  rw [e] at f2
  obtain ⟨rfl, rfl⟩ := Prod.mk.inj (Except.ok.inj f2)
  have nlm := P3.ne hlm0
  have P4 := P3.same S4
  have hlo4 := S4 _ _ hlo
  have hls4 := S4 _ _ hls3
  walk_at "zz"
  refine cl_nodes ⟨lo, ys, rfl, SqL.of hlo4, by omega, fun hs2 bs2 f2 ln ws H5 S5 hln0 hln N5 => ?_, fun er ee => by rw [e'] at ee; cases ee⟩
  rw [e'] at f2
  obtain ⟨rfl, rfl⟩ := Prod.mk.inj (Except.ok.inj f2)
  have nln := P4.ne hln0
  have P5 := P4.same S5
  walk_at "zz"
  refine cl_Ldepths ⟨lm, vs, bs, 1 + 2 * hs.length, rfl, S5 _ _ hlm, N4.mono (TupS.of S5), (cov_l bs cov).1, by omega, fun ld us H6 S6 hld0 hld D6 => ?_⟩
  have nld := P5.ne hld0
  have P6 := P5.same S6
  walk_at "zz"
  refine cl_Ldepths ⟨ln, ws, cs, 1 + 2 * hs.length, rfl, S6 _ _ hln, N5.mono (TupS.of S6), (cov_l cs cov').1, by omega, fun le us' H7 S7 hle0 hle D7 => ?_⟩
  have nle := P6.ne hle0
  have P7 := P6.same S7
  walk_at "zz"
  have hls7 := (S5.trans (S6.trans S7)) _ _ hls4
  have hlo7 := (S5.trans (S6.trans S7)) _ _ hlo4
  have hlm7 := (S5.trans (S6.trans S7)) _ _ hlm
  have hln7 := (S6.trans S7) _ _ hln
  have hld7 := S7 _ _ hld
  have N47 := N4.mono (TupS.of (S5.trans (S6.trans S7)))
  have N57 := N5.mono (TupS.of (S6.trans S7))
  have D67 := D6.mono (TupS.of S7)
  have nl4 := N4.len
  have nl5 := N5.len
  have bpos : 1 ≤ (pres bs).length := by
    have := F.l
    have := F.h.1
    have := pres_ge bs
    omega
  refine loop_range (fun i σ' H' => St3 Z.K H' p ∧ But p H7 H' ∧ ∃ x9 x10 x11 x12 x13 x14 x15 : Option V, σ' = [some (.ref a), some (.ref p), some (.ref ls), some (.ref lh), some (.ref lo), some (.ref lm), some (.ref ln), some (.ref ld), some (.ref le), x9, x10, x11, x12, x13, x14, x15]) ⟨P7, But.refl _ _, _, _, _, _, _, _, _, rfl⟩ ?_ ?_
  · rintro i0 σ' H8 hi ⟨P8, B8, x9, x10, x11, x12, x13, x14, x15, rfl⟩
    have hlm8 := B8.rd nlm hlm7
    walk_at "zz"
    rw [nl4]
    refine cl_Ltake ⟨p, ((pres bs).length : Int), rfl, rfl, by omega, Int.lt_of_le_of_lt (show ((pres bs).length : Int) ≤ 100000 by omega) (by decide), P8, fun v H9 v0 v1 P9 B9 => ?_⟩
    have B79 := B8.trans B9
    have T79 := P7.tups B79
    obtain ⟨i, rfl⟩ : ∃ i : Nat, v = (i : Int) := ⟨v.toNat, by omega⟩
    have hil : i < (pres bs).length := by omega
    have em : (pres bs)[i]? = some (pres bs)[i] := List.getElem?_eq_getElem hil
    obtain ⟨l, r, c, hd, W⟩ := wh_of e em
    generalize (pres bs)[i] = m at em W
    obtain ⟨td, etd, htd⟩ := (D67.mono T79).get W.dx
    have hld9 := B79.rd nld hld7
    walk_at "zz"
    refine s_ixN (m := i) (SqL.of hld9) etd ?_
    walk_at "zz"
    refine s_ix_t (SqT.of htd) (v := .int (l.length : Int)) rfl ?_
    walk_at "zz"
    refine cl_Lin_function ⟨le, us', dfs cs 0, (l.length : Int), rfl, rfl, B79.rd nle hle, D7.mono T79, by rw [dfs_len]; omega, fun lf H10 S10 hlf0 hlf => ?_⟩
    have P10 := P9.same S10
    have nlf := P9.ne hlf0
    have hl2 : l.length < cs.length := by
      rw [F'.l]
      exact (List.getElem?_eq_some_iff.mp W.hx).1
    obtain ⟨k0, d0, ek0⟩ := dfs_has cs 0 l.length hl2
    rw [Int.zero_add] at ek0
    have fpos : 1 ≤ (inF (dfs cs 0) (l.length : Int) (dfs cs 0).length).length := List.length_pos_of_mem (inF_of ek0)
    have flen : (inF (dfs cs 0) (l.length : Int) (dfs cs 0).length).length ≤ 300000 := by
      unfold inF
      rw [List.length_map]
      refine Nat.le_trans (List.length_filter_le _ _) ?_
      rw [List.length_range, dfs_len]; omega
    walk_at "zz"
    rw [List.length_map]
    refine cl_Ltake ⟨p, _, rfl, rfl, by omega, Int.lt_of_le_of_lt (show _ ≤ (300000 : Int) by omega) (by decide), P10, fun v H11 v0 v1 P11 B11 => ?_⟩
    obtain ⟨j, rfl⟩ : ∃ j : Nat, v = (j : Int) := ⟨v.toNat, by omega⟩
    obtain ⟨x, ex0⟩ : ∃ x, (inF (dfs cs 0) (l.length : Int) (dfs cs 0).length)[j]? = some x := ⟨_, List.getElem?_eq_getElem (show j < _ by omega)⟩
    obtain ⟨k, dk, rfl, ek⟩ := inF_mem (List.mem_of_getElem? ex0)
    have B711 := (B79.trans (.of S10)).trans B11
    have T711 := P7.tups B711
    refine s_ixN (m := j) (SqL.of (B11.rd nlf hlf)) (v := .int (k : Int)) (by rw [List.getElem?_map, ex0]; rfl) ?_
    have hk : k < (pres cs).length := by
      have := (List.getElem?_eq_some_iff.mp ek).1
      rwa [dfs_len] at this
    have em' : (pres cs)[k]? = some (pres cs)[k] := List.getElem?_eq_getElem hk
    obtain ⟨l', r', c', hd', W'⟩ := wh_of e' em'
    generalize (pres cs)[k] = m' at em' W'
    have el : l'.length = l.length := by
      have := W'.dx
      rw [ek] at this
      have := (Prod.mk.inj (Option.some.inj this)).2
      omega
    have ehd : hd' = hd := by
      have a1 := W'.hx
      rw [el, W.hx] at a1
      exact (Option.some.inj a1).symm
    subst ehd
    obtain ⟨vm, evm⟩ : ∃ v, ws[k]? = some v := ⟨_, List.getElem?_eq_getElem (by omega)⟩
    obtain ⟨m3, em3, hm3⟩ := (N57.mono T711).get evm
    rw [em'] at em3
    cases em3
    refine s_ixN (m := k) (SqL.of (B711.rd nln hln7)) evm ?_
    have mle' := enc_mem em'
    have mle := enc_mem em
    walk_at "zz"
    obtain ⟨p2, ep2⟩ : ∃ p2 : Nat, m'.place = (p2 : Int) := ⟨_, W'.px⟩
    obtain ⟨pu1, pu2, pu3⟩ := W'.put e' p2 ep2 []
    have ok2 : ∃ G, OkN hs hd'.2 G m' := ⟨_, W'.ox⟩
    clear W' pu1
    have hm11 := id hm3
    obtain ⟨kd, plc2, nn, pp⟩ := m'
    obtain rfl : plc2 = (p2 : Int) := ep2
    obtain ⟨tm, tn, tp, vs4, rfl, g1, g2, g3, g4⟩ := hm3
    refine s_ix_t (SqT.of g1) (v := .int (p2 : Int)) rfl ?_
    walk_at "zz"
    refine s_ix_t (SqT.of g1) (v := .int (p2 : Int)) rfl ?_
    walk_at "zz"
    refine cl_Lmany ⟨.ref tm, _, rfl, hm11, by omega, fun H12 S12 => ?_⟩
    have B712 := B711.trans (.of S12)
    have P12 := P11.same S12
    have hm12 := hm11.mono (TupS.of S12)
    have hlo12 := B712.rd nlo hlo7
    generalize hmt : Nd.mk kd (p2 : Int) nn pp = mt at *
    walk_at "zz"
    intro l2 hl2
    rw [show (p2 : Int) + ((enc mt).length : Nat) = ((p2 + (enc mt).length : Nat) : Int) by omega, cut_nat (by omega) (by rw [List.length_map]; omega), ← List.map_drop, ← List.map_take, Nat.add_sub_cancel_left, pu3]
    have S13 := same_new (o := .lst ((enc mt).map V.int)) hl2
    have h13 : upd H12 l2 (.lst ((enc mt).map V.int)) l2 = some (.lst ((enc mt).map V.int)) := upd_same
    generalize upd H12 l2 (.lst ((enc mt).map V.int)) = H13 at *
    walk_at "zz"
    refine cl_Ldepth ⟨.ref tm, mt, rfl, hm12.mono (TupS.of S13), by omega, fun H14 S14 => ?_⟩
    have B714 := (B712.trans (.of S13)).trans (.of S14)
    have T714 := P7.tups B714
    have P14 := (P12.same S13).same S14
    walk_at "zz"
    refine cl_Lexchanged ⟨ls, lm, l2, xs, hs, bs, vs, i, m, l, r, c, hd', mt, rfl, rfl, rfl, rfl, rfl, B714.rd nls hls7, e, hlen, B714.rd nlm hlm7, N47.mono T714, em, W, S14 _ _ h13, by omega, ok2, fun H15 S15 => ?_⟩
    have B715 := B714.trans (.of S15)
    have T715 := P7.tups B715
    have P15 := P14.same S15
    walk_at "zz"
    obtain ⟨vn, evn⟩ : ∃ v, vs[i]? = some v := ⟨_, List.getElem?_eq_getElem (by omega)⟩
    obtain ⟨m4, em4, hm4⟩ := (N47.mono T715).get evn
    rw [em] at em4
    cases em4
    obtain ⟨p3, ep3⟩ : ∃ p3 : Nat, m.place = (p3 : Int) := ⟨_, W.px⟩
    obtain ⟨_, pv2, pv3⟩ := W.put e p3 ep3 []
    have mn15 := id hm4
    obtain ⟨kd3, plc3, nn3, pp3⟩ := m
    obtain rfl : plc3 = (p3 : Int) := ep3
    obtain ⟨tm3, tn3, tp3, vs43, rfl, q1, q2, q3, q4⟩ := hm4
    have hlm15 := B715.rd nlm hlm7
    refine s_ixN (m := i) (SqL.of hlm15) evn ?_
    walk_at "zz"
    refine s_ix_t (SqT.of q1) (v := .int (p3 : Int)) rfl ?_
    walk_at "zz"
    refine s_ixN (m := i) (SqL.of hlm15) evn ?_
    walk_at "zz"
    refine s_ix_t (SqT.of q1) (v := .int (p3 : Int)) rfl ?_
    walk_at "zz"
    refine s_ixN (m := i) (SqL.of hlm15) evn ?_
    walk_at "zz"
    refine cl_Lmany ⟨.ref tm3, _, rfl, mn15, by omega, fun H16 S16 => ?_⟩
    have B716 := B715.trans (.of S16)
    have P16 := P15.same S16
    have hls16 := B716.rd nls hls7
    have hlm16 := B716.rd nlm hlm7
    have mn16 := mn15.mono (TupS.of S16)
    generalize hmt3 : Nd.mk kd3 (p3 : Int) nn3 pp3 = mt3 at *
    walk_at "zz"
    intro l5 hl5
    rw [show (p3 : Int) + ((enc mt3).length : Nat) = ((p3 + (enc mt3).length : Nat) : Int) by omega, cut_nat (by omega) (by rw [List.length_map]; omega), ← List.map_drop, ← List.map_take, Nat.add_sub_cancel_left, pv3] at *
    have S17 := same_new (o := .lst ((enc mt3).map V.int)) hl5
    have h17 : upd H16 l5 (.lst ((enc mt3).map V.int)) l5 = some (.lst ((enc mt3).map V.int)) := upd_same
    generalize upd H16 l5 (.lst ((enc mt3).map V.int)) = H17 at *
    walk_at "zz"
    refine s_ixN (m := i) (SqL.of (S17 _ _ hlm16)) evn ?_
    walk_at "zz"
    refine cl_Ldepth ⟨.ref tm3, mt3, rfl, mn16.mono (TupS.of S17), by omega, fun H18 S18 => ?_⟩
    have h18 := S18 _ _ h17
    walk_at "zz"
    intro l6 hl6
    generalize hU : L2.upd H18 l6 _ = H19
    have S19 : _root_.Z.Same H18 H19 := hU ▸ _root_.Z.same_new hl6
    have h19 := (congrFun hU l6).symm
    rw [L2.upd_same] at h19
    clear hU
    replace h19 : H19 l6 = some (.lst (([3, 1] : List Int).map V.int)) := h19
    walk_at "zz"
    refine s_add_l h19 (S19 _ _ h18) (by rw [List.length_map, List.length_map]; exact Nat.le_trans (show _ ≤ 1000000 by simp only [List.length_cons, List.length_nil]; omega) big) fun l7 hl7 => ?_
    have S20 := same_new (o := .lst (([3, 1] : List Int).map V.int ++ (enc mt3).map V.int)) hl7
    have h20 : upd H19 l7 (.lst (([3, 1] : List Int).map V.int ++ (enc mt3).map V.int)) l7 = some (.lst ((enc (.mk 3 0 [1] [mt3])).map V.int)) := by
      rw [upd_same]
      show some (HO.lst _) = some (HO.lst ((3 :: ([1] ++ (enc mt3 ++ []))).map V.int))
      rw [List.append_nil]
      simp
    generalize upd H19 l7 (.lst (([3, 1] : List Int).map V.int ++ (enc mt3).map V.int)) = H20 at *
    have S1620 := ((S17.trans S18).trans S19).trans S20
    have B720 := B716.trans (.of S1620)
    have P20 := P16.same S1620
    walk_at "zz"
    rw [show (1 : Int) + ((dpn mt3 : Nat) : Int) = ((dpn (.mk 3 0 [1] [mt3]) : Nat) : Int) by
      show _ = ((1 + Nat.max (dpn mt3) 0 : Nat) : Int)
      rw [show Nat.max (dpn mt3) 0 = dpn mt3 from Nat.max_zero _]
      omega]
    refine cl_Lexchanged ⟨ls, lm, l7, xs, hs, bs, vs, i, mt3, l, r, c, hd', .mk 3 0 [1] [mt3], rfl, rfl, rfl, rfl, rfl, B720.rd nls hls7, e, hlen, B720.rd nlm hlm7, N47.mono (P7.tups B720), em, W, h20, ?_, ⟨10 - c.length + 1, by decide, by decide, .inr (.inr (.inl ⟨rfl, Nat.le_refl 1, by show 1 ≤ 12; decide, rfl⟩)), fun z hz => by rw [List.mem_singleton.mp hz]; exact W.ox⟩, fun H21 S21 => ?_⟩
    · show (3 :: ([1] ++ (enc mt3 ++ []))).length ≤ _
      simp only [List.length_cons, List.length_append, List.length_nil]
      omega
    walk_at "zz"
    exact ⟨P20.same S21, B720.trans (.of S21), _, _, _, _, _, _, _, rfl⟩
  rintro σ' H8 ⟨P8, B8, x9, x10, x11, x12, x13, x14, x15, rfl⟩
  walk_at "zz"
  refine cl_wrong ⟨ls, xs, rfl, SqL.of (B8.rd nls hls7), fun r _ H9 S9 => ?_, fun er ee => by rw [e] at ee; cases ee⟩
  walk_at "zz"
  exact q _

theorem sc_NoSheet_init : FnScope nm_NoSheet_init ["self", "place", "word"] (defScope st_NoSheet_init) := ⟨rfl, rfl, rfl, by decide +kernel, rfl, by decide +kernel, by decide +kernel⟩
theorem ok_NoSheet_init {P : Program} {w : World} {base : Heap} {Z : Adr} (T : Top Z)  : FnOk P w Z.K Z.mg base (L2.CX P w) 1 Z.f_NoSheet_init Z.d_NoSheet_init ["self", "place", "word"] (sp_NoSheet_init Z) := by
  refine FnOk.mono (T.F_NoSheet_init.okX (k := 0) sc_NoSheet_init (fun vs H Q E h => ?_) (fun cdv A outer s H vs Q E hr h => ?_)) (by decide)
  · obtain ⟨a0, a1, a2, rfl, _⟩ := h; rfl
  · obtain ⟨a0, a1, a2, rfl, h⟩ := h
    have tk : Takes (cxOf (L2.CX P w) P w Z.K Z.mg base nm_NoSheet_init "NoSheet.__init__" (defScope st_NoSheet_init) Z.f_NoSheet_init cdv A outer s H E) (fun cls d _ H => E cls d H) := takes_of rfl rfl rfl rfl
    have po : PassesOwn (model P w) (cxOf (L2.CX P w) P w Z.K Z.mg base nm_NoSheet_init "NoSheet.__init__" (defScope st_NoSheet_init) Z.f_NoSheet_init cdv A outer s H E).A (cxOf (L2.CX P w) P w Z.K Z.mg base nm_NoSheet_init "NoSheet.__init__" (defScope st_NoSheet_init) Z.f_NoSheet_init cdv A outer s H E).env (cxOf (L2.CX P w) P w Z.K Z.mg base nm_NoSheet_init "NoSheet.__init__" (defScope st_NoSheet_init) Z.f_NoSheet_init cdv A outer s H E).xe := passes_of rfl
    refine ⟨t_NoSheet_init Z (fun cls d _ H => E cls d H), ?_, rd_NoSheet_init T h⟩
    exact (pss_cons (ps_expr (pe_cinit rfl T.g_ChainError T.ri_ChainError T.rs_ChainError T.rv_ChainError (pa_cons (pv 0) (pa_cons pe_str pa_nil))))
      (pss_cons (ps_ost (pv 0) (pv 1) rfl)
      (pss_one (ps_ost (pv 0) (pv 2) rfl))))

theorem sc_parts_of : FnScope nm_parts_of ["kind"] (defScope st_parts_of) := ⟨rfl, rfl, rfl, by decide +kernel, rfl, by decide +kernel, by decide +kernel⟩
theorem ok_parts_of {P : Program} {w : World} {base : Heap} {Z : Adr} (T : Top Z)  : FnOk P w Z.K Z.mg base (L2.CX P w) 1 Z.f_parts_of Z.d_parts_of ["kind"] (sp_parts_of Z) := by
  refine FnOk.mono (T.F_parts_of.okX (k := 0) sc_parts_of (fun vs H Q E h => ?_) (fun cdv A outer s H vs Q E hr h => ?_)) (by decide)
  · obtain ⟨a0, rfl, _⟩ := h; rfl
  · obtain ⟨a0, rfl, h⟩ := h
    have tk : Takes (cxOf (L2.CX P w) P w Z.K Z.mg base nm_parts_of "parts_of" (defScope st_parts_of) Z.f_parts_of cdv A outer s H E) (fun cls d _ H => E cls d H) := takes_of rfl rfl rfl rfl
    have po : PassesOwn (model P w) (cxOf (L2.CX P w) P w Z.K Z.mg base nm_parts_of "parts_of" (defScope st_parts_of) Z.f_parts_of cdv A outer s H E).A (cxOf (L2.CX P w) P w Z.K Z.mg base nm_parts_of "parts_of" (defScope st_parts_of) Z.f_parts_of cdv A outer s H E).env (cxOf (L2.CX P w) P w Z.K Z.mg base nm_parts_of "parts_of" (defScope st_parts_of) Z.f_parts_of cdv A outer s H E).xe := passes_of rfl
    refine ⟨t_parts_of Z (fun cls d _ H => E cls d H), ?_, rd_parts_of T h⟩
    exact (pss_cons (ps_if (pt_cmpR (op_eqU (hr.units)) (pv 0) (pe_glob rfl T.g_NEW ⟨_, rfl⟩) (nomark _)) (pss_one (ps_ret pe_int)) pss_nil)
      (pss_cons (ps_if (pt_cmpR op_in_seq (pv 0) (pe_tup (pa_cons (pe_glob rfl T.g_FAIL ⟨_, rfl⟩) (pa_cons (pe_glob rfl T.g_SIZE ⟨_, rfl⟩) pa_nil))) (by rfl)) (pss_one (ps_ret pe_int)) pss_nil)
      (pss_cons (ps_if (pt_cmpR (op_eqU (hr.units)) (pv 0) (pe_glob rfl T.g_PUT ⟨_, rfl⟩) (nomark _)) (pss_one (ps_ret pe_int)) pss_nil)
      (pss_one (ps_ret pe_int)))))

theorem sc_Look_init : FnScope nm_Look_init ["self", "numbers"] (defScope st_Look_init) := ⟨rfl, rfl, rfl, by decide +kernel, rfl, by decide +kernel, by decide +kernel⟩
theorem ok_Look_init {P : Program} {w : World} {base : Heap} {Z : Adr} (T : Top Z)  : FnOk P w Z.K Z.mg base (L2.CX P w) 1 Z.f_Look_init Z.d_Look_init ["self", "numbers"] (sp_Look_init Z) := by
  refine FnOk.mono (T.F_Look_init.okX (k := 0) sc_Look_init (fun vs H Q E h => ?_) (fun cdv A outer s H vs Q E hr h => ?_)) (by decide)
  · obtain ⟨a0, a1, rfl, _⟩ := h; rfl
  · obtain ⟨a0, a1, rfl, h⟩ := h
    have tk : Takes (cxOf (L2.CX P w) P w Z.K Z.mg base nm_Look_init "Look.__init__" (defScope st_Look_init) Z.f_Look_init cdv A outer s H E) (fun cls d _ H => E cls d H) := takes_of rfl rfl rfl rfl
    have po : PassesOwn (model P w) (cxOf (L2.CX P w) P w Z.K Z.mg base nm_Look_init "Look.__init__" (defScope st_Look_init) Z.f_Look_init cdv A outer s H E).A (cxOf (L2.CX P w) P w Z.K Z.mg base nm_Look_init "Look.__init__" (defScope st_Look_init) Z.f_Look_init cdv A outer s H E).env (cxOf (L2.CX P w) P w Z.K Z.mg base nm_Look_init "Look.__init__" (defScope st_Look_init) Z.f_Look_init cdv A outer s H E).xe := passes_of rfl
    refine ⟨t_Look_init Z (fun cls d _ H => E cls d H), ?_, rd_Look_init T h⟩
    exact (pss_cons (ps_fld (pv 0) (pe_callTy call_list' (by rfl) T.n_list (by decide +kernel) (pa_cons (pv 1) pa_nil)) rfl)
      (pss_one (ps_fld (pv 0) pe_int rfl)))

theorem sc_Look_due : FnScope nm_Look_due ["self"] (defScope st_Look_due) := ⟨rfl, rfl, rfl, by decide +kernel, rfl, by decide +kernel, by decide +kernel⟩
theorem ok_Look_due {P : Program} {w : World} {base : Heap} {Z : Adr} (T : Top Z) (G_NoSheet_init : FnOk P w Z.K Z.mg base (L2.CX P w) 1 Z.f_NoSheet_init Z.d_NoSheet_init ["self", "place", "word"] (sp_NoSheet_init Z)) : FnOk P w Z.K Z.mg base (L2.CX P w) 3 Z.f_Look_due Z.d_Look_due ["self"] (sp_Look_due Z) := by
  refine FnOk.mono (T.F_Look_due.okX (k := 2) sc_Look_due (fun vs H Q E h => ?_) (fun cdv A outer s H vs Q E hr h => ?_)) (by decide)
  · obtain ⟨a0, rfl, _⟩ := h; rfl
  · obtain ⟨a0, rfl, h⟩ := h
    have tk : Takes (cxOf (L2.CX P w) P w Z.K Z.mg base nm_Look_due "Look.due" (defScope st_Look_due) Z.f_Look_due cdv A outer s H E) (fun cls d _ H => E cls d H) := takes_of rfl rfl rfl rfl
    have po : PassesOwn (model P w) (cxOf (L2.CX P w) P w Z.K Z.mg base nm_Look_due "Look.due" (defScope st_Look_due) Z.f_Look_due cdv A outer s H E).A (cxOf (L2.CX P w) P w Z.K Z.mg base nm_Look_due "Look.due" (defScope st_Look_due) Z.f_Look_due cdv A outer s H E).env (cxOf (L2.CX P w) P w Z.K Z.mg base nm_Look_due "Look.due" (defScope st_Look_due) Z.f_Look_due cdv A outer s H E).xe := passes_of rfl
    refine ⟨t_Look_due Z (fun cls d _ H => E cls d H), ?_, rd_Look_due T h⟩
    exact (pss_cons (ps_if (pt_cmpR (op_eqU (hr.units)) (pe_fld (pv 0) rfl) (pe_callB call_len' (by rfl) T.n_len (by decide +kernel) (pa_cons (pe_fld (pv 0) rfl) pa_nil)) (nomark _)) (pss_one (ps_raiseO rfl tk T.ox_NoSheet T.oi_NoSheet T.ot_NoSheet G_NoSheet_init (hr.mono (by decide)) T.b_NoSheet_init passF rfl T.g_NoSheet (pa_cons (pe_fld (pv 0) rfl) (pa_cons pe_str pa_nil)))) pss_nil)
      (pss_cons (ps_fld (pv 0) (pe_op op_addU (pe_fld (pv 0) rfl) pe_int) rfl)
      (pss_one (ps_ret (pe_ix ix_seq (pe_fld (pv 0) rfl) (pe_op op_sub (pe_fld (pv 0) rfl) pe_int) (fun _ _ => rfl))))))

theorem sc_Look_within : FnScope nm_Look_within ["self", "low", "high"] (defScope st_Look_within) := ⟨rfl, rfl, rfl, by decide +kernel, rfl, by decide +kernel, by decide +kernel⟩
theorem ok_Look_within {P : Program} {w : World} {base : Heap} {Z : Adr} (T : Top Z) (G_Look_due : FnOk P w Z.K Z.mg base (L2.CX P w) 3 Z.f_Look_due Z.d_Look_due ["self"] (sp_Look_due Z)) (G_NoSheet_init : FnOk P w Z.K Z.mg base (L2.CX P w) 1 Z.f_NoSheet_init Z.d_NoSheet_init ["self", "place", "word"] (sp_NoSheet_init Z)) : FnOk P w Z.K Z.mg base (L2.CX P w) 4 Z.f_Look_within Z.d_Look_within ["self", "low", "high"] (sp_Look_within Z) := by
  refine FnOk.mono (T.F_Look_within.okX (k := 3) sc_Look_within (fun vs H Q E h => ?_) (fun cdv A outer s H vs Q E hr h => ?_)) (by decide)
  · obtain ⟨a0, a1, a2, rfl, _⟩ := h; rfl
  · obtain ⟨a0, a1, a2, rfl, h⟩ := h
    have tk : Takes (cxOf (L2.CX P w) P w Z.K Z.mg base nm_Look_within "Look.within" (defScope st_Look_within) Z.f_Look_within cdv A outer s H E) (fun cls d _ H => E cls d H) := takes_of rfl rfl rfl rfl
    have po : PassesOwn (model P w) (cxOf (L2.CX P w) P w Z.K Z.mg base nm_Look_within "Look.within" (defScope st_Look_within) Z.f_Look_within cdv A outer s H E).A (cxOf (L2.CX P w) P w Z.K Z.mg base nm_Look_within "Look.within" (defScope st_Look_within) Z.f_Look_within cdv A outer s H E).env (cxOf (L2.CX P w) P w Z.K Z.mg base nm_Look_within "Look.within" (defScope st_Look_within) Z.f_Look_within cdv A outer s H E).xe := passes_of rfl
    refine ⟨t_Look_within Z (fun cls d _ H => E cls d H), ?_, rd_Look_within T h⟩
    exact (pss_cons (ps_set (i := 3) sc_Look_within.nd rfl (Or.inl rfl) (pe_meth0Z (pv 0) T.cl_Look T.mt_Look_due G_Look_due (hr.mono (by decide)) T.b_Look_due (fun σ => passAt tk σ)))
      (pss_cons (ps_if (pt_not (pt_chain op_le op_le (pv 1) (pv 3) (pv 2))) (pss_one (ps_raiseO rfl tk T.ox_NoSheet T.oi_NoSheet T.ot_NoSheet G_NoSheet_init (hr.mono (by decide)) T.b_NoSheet_init passF rfl T.g_NoSheet (pa_cons (pe_op op_sub (pe_fld (pv 0) rfl) pe_int) (pa_cons pe_str pa_nil)))) pss_nil)
      (pss_one (ps_ret (pv 3)))))

theorem sc_heads_in : FnScope nm_heads_in ["look"] (defScope st_heads_in) := ⟨rfl, rfl, rfl, by decide +kernel, rfl, by decide +kernel, by decide +kernel⟩
theorem ok_heads_in {P : Program} {w : World} {base : Heap} {Z : Adr} (T : Top Z) (G_Look_within : FnOk P w Z.K Z.mg base (L2.CX P w) 4 Z.f_Look_within Z.d_Look_within ["self", "low", "high"] (sp_Look_within Z)) : FnOk P w Z.K Z.mg base (L2.CX P w) 5 Z.f_heads_in Z.d_heads_in ["look"] (sp_heads_in Z) := by
  refine FnOk.mono (T.F_heads_in.okX (k := 4) sc_heads_in (fun vs H Q E h => ?_) (fun cdv A outer s H vs Q E hr h => ?_)) (by decide)
  · obtain ⟨a0, rfl, _⟩ := h; rfl
  · obtain ⟨a0, rfl, h⟩ := h
    have tk : Takes (cxOf (L2.CX P w) P w Z.K Z.mg base nm_heads_in "heads_in" (defScope st_heads_in) Z.f_heads_in cdv A outer s H E) (fun cls d _ H => E cls d H) := takes_of rfl rfl rfl rfl
    have po : PassesOwn (model P w) (cxOf (L2.CX P w) P w Z.K Z.mg base nm_heads_in "heads_in" (defScope st_heads_in) Z.f_heads_in cdv A outer s H E).A (cxOf (L2.CX P w) P w Z.K Z.mg base nm_heads_in "heads_in" (defScope st_heads_in) Z.f_heads_in cdv A outer s H E).env (cxOf (L2.CX P w) P w Z.K Z.mg base nm_heads_in "heads_in" (defScope st_heads_in) Z.f_heads_in cdv A outer s H E).xe := passes_of rfl
    refine ⟨t_heads_in Z (fun cls d _ H => E cls d H), ?_, rd_heads_in T h⟩
    exact (pss_cons (ps_set (i := 1) sc_heads_in.nd rfl (Or.inl rfl) (pe_lst pa_nil))
      (pss_cons (ps_for po rfl (pi_range1 rfl T.n_range (pa_cons (pe_methZ (pv 0) T.cl_Look T.mt_Look_within G_Look_within (hr.mono (by decide)) T.b_Look_within (fun σ => passAt tk σ) (pa_cons pe_int (pa_cons (pe_glob rfl T.g_MOST_FUNCTIONS ⟨_, rfl⟩) pa_nil))) pa_nil)) (pg_name (i := 2) sc_heads_in.nd rfl (Or.inl rfl)) (pss_cons (ps_set (i := 3) sc_heads_in.nd rfl (Or.inl rfl) (pe_methZ (pv 0) T.cl_Look T.mt_Look_within G_Look_within (hr.mono (by decide)) T.b_Look_within (fun σ => passAt tk σ) (pa_cons pe_int (pa_cons (pe_op op_ml (pe_glob rfl T.g_MOST_PARAMS ⟨_, rfl⟩) (pe_callTy call_int' (by rfl) T.n_int (by decide +kernel) (pa_cons (pe_cmpR op_gt (pv 2) pe_int (nomark _)) pa_nil))) pa_nil))))
      (pss_one (ps_expr (pe_bm PySem.F.plainAttrs_list PySem.F.slot_list_append PySem.F.type_list_append mt_append (pv 1) (pa_cons (pe_tup (pa_cons (pv 3) (pa_cons (pe_methZ (pv 0) T.cl_Look T.mt_Look_within G_Look_within (hr.mono (by decide)) T.b_Look_within (fun σ => passAt tk σ) (pa_cons (pv 3) (pa_cons (pe_glob rfl T.g_MOST_BOXES ⟨_, rfl⟩) pa_nil))) pa_nil))) pa_nil))))))
      (pss_one (ps_ret (pv 1)))))

theorem sc_own_numbers : FnScope nm_own_numbers ["look", "heads", "boxes", "kind"] (defScope st_own_numbers) := ⟨rfl, rfl, rfl, by decide +kernel, rfl, by decide +kernel, by decide +kernel⟩
theorem ok_own_numbers {P : Program} {w : World} {base : Heap} {Z : Adr} (T : Top Z) (G_Look_due : FnOk P w Z.K Z.mg base (L2.CX P w) 3 Z.f_Look_due Z.d_Look_due ["self"] (sp_Look_due Z)) (G_Look_within : FnOk P w Z.K Z.mg base (L2.CX P w) 4 Z.f_Look_within Z.d_Look_within ["self", "low", "high"] (sp_Look_within Z)) (G_parts_of : FnOk P w Z.K Z.mg base (L2.CX P w) 1 Z.f_parts_of Z.d_parts_of ["kind"] (sp_parts_of Z)) : FnOk P w Z.K Z.mg base (L2.CX P w) 5 Z.f_own_numbers Z.d_own_numbers ["look", "heads", "boxes", "kind"] (sp_own_numbers Z) := by
  refine FnOk.mono (T.F_own_numbers.okX (k := 4) sc_own_numbers (fun vs H Q E h => ?_) (fun cdv A outer s H vs Q E hr h => ?_)) (by decide)
  · obtain ⟨a0, a1, a2, a3, rfl, _⟩ := h; rfl
  · obtain ⟨a0, a1, a2, a3, rfl, h⟩ := h
    have tk : Takes (cxOf (L2.CX P w) P w Z.K Z.mg base nm_own_numbers "own_numbers" (defScope st_own_numbers) Z.f_own_numbers cdv A outer s H E) (fun cls d _ H => E cls d H) := takes_of rfl rfl rfl rfl
    have po : PassesOwn (model P w) (cxOf (L2.CX P w) P w Z.K Z.mg base nm_own_numbers "own_numbers" (defScope st_own_numbers) Z.f_own_numbers cdv A outer s H E).A (cxOf (L2.CX P w) P w Z.K Z.mg base nm_own_numbers "own_numbers" (defScope st_own_numbers) Z.f_own_numbers cdv A outer s H E).env (cxOf (L2.CX P w) P w Z.K Z.mg base nm_own_numbers "own_numbers" (defScope st_own_numbers) Z.f_own_numbers cdv A outer s H E).xe := passes_of rfl
    refine ⟨t_own_numbers Z (fun cls d _ H => E cls d H), ?_, rd_own_numbers T h⟩
    exact (pss_cons (ps_if (pt_cmpR (op_eqU (hr.units)) (pv 3) (pe_glob rfl T.g_NUMBER ⟨_, rfl⟩) (nomark _)) (pss_one (ps_ret (pe_tup (pa_cons (pe_tup (pa_cons (pe_meth0Z (pv 0) T.cl_Look T.mt_Look_due G_Look_due (hr.mono (by decide)) T.b_Look_due (fun σ => passAt tk σ)) pa_nil)) (pa_cons pe_int pa_nil))))) pss_nil)
      (pss_cons (ps_if (pt_cmpR (op_eqU (hr.units)) (pv 3) (pe_glob rfl T.g_GET ⟨_, rfl⟩) (nomark _)) (pss_one (ps_ret (pe_tup (pa_cons (pe_tup (pa_cons (pe_methZ (pv 0) T.cl_Look T.mt_Look_within G_Look_within (hr.mono (by decide)) T.b_Look_within (fun σ => passAt tk σ) (pa_cons pe_int (pa_cons (pe_op op_sub (pv 2) pe_int) pa_nil))) pa_nil)) (pa_cons pe_int pa_nil))))) pss_nil)
      (pss_cons (ps_if (pt_cmpR (op_eqU (hr.units)) (pv 3) (pe_glob rfl T.g_SET ⟨_, rfl⟩) (nomark _)) (pss_one (ps_ret (pe_tup (pa_cons (pe_tup (pa_cons (pe_methZ (pv 0) T.cl_Look T.mt_Look_within G_Look_within (hr.mono (by decide)) T.b_Look_within (fun σ => passAt tk σ) (pa_cons pe_int (pa_cons (pe_op op_sub (pv 2) pe_int) pa_nil))) pa_nil)) (pa_cons pe_int pa_nil))))) pss_nil)
      (pss_cons (ps_if (pt_cmpR (op_eqU (hr.units)) (pv 3) (pe_glob rfl T.g_ALL ⟨_, rfl⟩) (nomark _)) (pss_cons (ps_set (i := 4) sc_own_numbers.nd rfl (Or.inl rfl) (pe_methZ (pv 0) T.cl_Look T.mt_Look_within G_Look_within (hr.mono (by decide)) T.b_Look_within (fun σ => passAt tk σ) (pa_cons pe_int (pa_cons (pe_glob rfl T.g_MOST_PARTS ⟨_, rfl⟩) pa_nil))))
      (pss_one (ps_ret (pe_tup (pa_cons (pe_tup (pa_cons (pv 4) pa_nil)) (pa_cons (pv 4) pa_nil)))))) pss_nil)
      (pss_cons (ps_if (pt_cmpR (op_eqU (hr.units)) (pv 3) (pe_glob rfl T.g_PICK ⟨_, rfl⟩) (nomark _)) (pss_cons (ps_set (i := 4) sc_own_numbers.nd rfl (Or.inl rfl) (pe_methZ (pv 0) T.cl_Look T.mt_Look_within G_Look_within (hr.mono (by decide)) T.b_Look_within (fun σ => passAt tk σ) (pa_cons pe_int (pa_cons (pe_glob rfl T.g_MOST_PARTS ⟨_, rfl⟩) pa_nil))))
      (pss_one (ps_ret (pe_tup (pa_cons (pe_tup (pa_cons (pv 4) pa_nil)) (pa_cons (pe_op op_addU (pv 4) pe_int) pa_nil)))))) pss_nil)
      (pss_cons (ps_if (pt_cmpR (op_eqU (hr.units)) (pv 3) (pe_glob rfl T.g_CALL ⟨_, rfl⟩) (nomark _)) (pss_cons (ps_set (i := 5) sc_own_numbers.nd rfl (Or.inl rfl) (pe_methZ (pv 0) T.cl_Look T.mt_Look_within G_Look_within (hr.mono (by decide)) T.b_Look_within (fun σ => passAt tk σ) (pa_cons pe_int (pa_cons (pe_op op_sub (pe_callB call_len' (by rfl) T.n_len (by decide +kernel) (pa_cons (pv 1) pa_nil)) pe_int) pa_nil))))
      (pss_one (ps_ret (pe_tup (pa_cons (pe_tup (pa_cons (pv 5) pa_nil)) (pa_cons (pe_ix ix_seq (pe_ix ix_seq (pv 1) (pv 5) (fun _ _ => rfl)) pe_int (fun _ _ => rfl)) pa_nil)))))) pss_nil)
      (pss_cons (ps_if (pt_cmpR (op_eqU (hr.units)) (pv 3) (pe_glob rfl T.g_LOOP ⟨_, rfl⟩) (nomark _)) (pss_one (ps_ret (pe_tup (pa_cons (pe_tup pa_nil) (pa_cons pe_int pa_nil))))) pss_nil)
      (pss_one (ps_ret (pe_tup (pa_cons (pe_tup pa_nil) (pa_cons (pe_callS G_parts_of (hr.mono (by decide)) rfl T.m_parts_of T.k_parts_of T.b_parts_of (fun σ => passAt tk σ) (pa_cons (pv 3) pa_nil)) pa_nil))))))))))))

theorem sc_node_in : FnScope nm_node_in ["look", "heads", "boxes", "deep"] (defScope st_node_in) := ⟨rfl, rfl, rfl, by decide +kernel, rfl, by decide +kernel, by decide +kernel⟩
theorem ok_node_in {P : Program} {w : World} {base : Heap} {Z : Adr} (T : Top Z) (n : Nat) (G_NoSheet_init : FnOk P w Z.K Z.mg base (L2.CX P w) 1 Z.f_NoSheet_init Z.d_NoSheet_init ["self", "place", "word"] (sp_NoSheet_init Z)) (G_Look_within : FnOk P w Z.K Z.mg base (L2.CX P w) 4 Z.f_Look_within Z.d_Look_within ["self", "low", "high"] (sp_Look_within Z)) (G_own_numbers : FnOk P w Z.K Z.mg base (L2.CX P w) 5 Z.f_own_numbers Z.d_own_numbers ["look", "heads", "boxes", "kind"] (sp_own_numbers Z)) (G_node_in : FnOk P w Z.K Z.mg base (L2.CX P w) (5 + n) Z.f_node_in Z.d_node_in ["look", "heads", "boxes", "deep"] (sp_node_in Z n)) : FnOk P w Z.K Z.mg base (L2.CX P w) (5 + n + 1) Z.f_node_in Z.d_node_in ["look", "heads", "boxes", "deep"] (sp_node_in Z (n + 1)) := by
  refine T.F_node_in.okX (k := 5 + n) sc_node_in (fun vs H Q E h => ?_) (fun cdv A outer s H vs Q E hr h => ?_)
  · obtain ⟨a0, a1, a2, a3, rfl, _⟩ := h; rfl
  · obtain ⟨a0, a1, a2, a3, rfl, h⟩ := h
    have tk : Takes (cxOf (L2.CX P w) P w Z.K Z.mg base nm_node_in "node_in" (defScope st_node_in) Z.f_node_in cdv A outer s H E) (fun cls d _ H => E cls d H) := takes_of rfl rfl rfl rfl
    have po : PassesOwn (model P w) (cxOf (L2.CX P w) P w Z.K Z.mg base nm_node_in "node_in" (defScope st_node_in) Z.f_node_in cdv A outer s H E).A (cxOf (L2.CX P w) P w Z.K Z.mg base nm_node_in "node_in" (defScope st_node_in) Z.f_node_in cdv A outer s H E).env (cxOf (L2.CX P w) P w Z.K Z.mg base nm_node_in "node_in" (defScope st_node_in) Z.f_node_in cdv A outer s H E).xe := passes_of rfl
    refine ⟨t_node_in Z n (fun cls d _ H => E cls d H), ?_, rd_node_in T h⟩
    exact (pss_cons (ps_if (pt_cmpR op_gt (pv 3) (pe_glob rfl T.g_MOST_DEEP ⟨_, rfl⟩) (nomark _)) (pss_one (ps_raiseO rfl tk T.ox_NoSheet T.oi_NoSheet T.ot_NoSheet G_NoSheet_init (hr.mono (by omega)) T.b_NoSheet_init passF rfl T.g_NoSheet (pa_cons (pe_fld (pv 0) rfl) (pa_cons pe_str pa_nil)))) pss_nil)
      (pss_cons (ps_set (i := 4) sc_node_in.nd rfl (Or.inl rfl) (pe_fld (pv 0) rfl))
      (pss_cons (ps_set (i := 5) sc_node_in.nd rfl (Or.inl rfl) (pe_methZ (pv 0) T.cl_Look T.mt_Look_within G_Look_within (hr.mono (by omega)) T.b_Look_within (fun σ => passAt tk σ) (pa_cons pe_int (pa_cons (pe_glob rfl T.g_NEW ⟨_, rfl⟩) pa_nil))))
      (pss_cons (ps_asg (pe_callS G_own_numbers (hr.mono (by omega)) rfl T.m_own_numbers T.k_own_numbers T.b_own_numbers (fun σ => passAt tk σ) (pa_cons (pv 0) (pa_cons (pv 1) (pa_cons (pv 2) (pa_cons (pv 5) pa_nil))))) (pg_un rfl (pgs_cons (pg_name (i := 6) sc_node_in.nd rfl (Or.inl rfl)) (pgs_cons (pg_name (i := 7) sc_node_in.nd rfl (Or.inl rfl)) pgs_nil))))
      (pss_cons (ps_set (i := 8) sc_node_in.nd rfl (Or.inl rfl) (pe_lst pa_nil))
      (pss_cons (ps_for po rfl (pi_range1 rfl T.n_range (pa_cons (pv 7) pa_nil)) (pg_name (i := 9) sc_node_in.nd rfl (Or.inl rfl)) (pss_one (ps_expr (pe_bm PySem.F.plainAttrs_list PySem.F.slot_list_append PySem.F.type_list_append mt_append (pv 8) (pa_cons (pe_callS G_node_in (hr.mono (by omega)) rfl T.m_node_in T.k_node_in T.b_node_in (fun σ => passAt tk σ) (pa_cons (pv 0) (pa_cons (pv 1) (pa_cons (pv 2) (pa_cons (pe_op op_addU (pv 3) pe_int) pa_nil))))) pa_nil)))))
      (pss_one (ps_ret (pe_tup (pa_cons (pv 5) (pa_cons (pv 4) (pa_cons (pv 6) (pa_cons (pe_callTy call_tuple' (by rfl) T.n_tuple (by decide +kernel) (pa_cons (pv 8) pa_nil)) pa_nil)))))))))))))

theorem sc_functions : FnScope nm_functions ["sheet"] (defScope st_functions) := ⟨rfl, rfl, rfl, by decide +kernel, rfl, by decide +kernel, by decide +kernel⟩
theorem ok_functions {P : Program} {w : World} {base : Heap} {Z : Adr} (T : Top Z) (G_Look_init : FnOk P w Z.K Z.mg base (L2.CX P w) 1 Z.f_Look_init Z.d_Look_init ["self", "numbers"] (sp_Look_init Z)) (G_heads_in : FnOk P w Z.K Z.mg base (L2.CX P w) 5 Z.f_heads_in Z.d_heads_in ["look"] (sp_heads_in Z)) (G_node_in : FnOk P w Z.K Z.mg base (L2.CX P w) (5 + 12) Z.f_node_in Z.d_node_in ["look", "heads", "boxes", "deep"] (sp_node_in Z 12)) (G_NoSheet_init : FnOk P w Z.K Z.mg base (L2.CX P w) 1 Z.f_NoSheet_init Z.d_NoSheet_init ["self", "place", "word"] (sp_NoSheet_init Z)) : FnOk P w Z.K Z.mg base (L2.CX P w) 18 Z.f_functions Z.d_functions ["sheet"] (sp_functions Z) := by
  refine FnOk.mono (T.F_functions.okX (k := 17) sc_functions (fun vs H Q E h => ?_) (fun cdv A outer s H vs Q E hr h => ?_)) (by decide)
  · obtain ⟨a0, rfl, _⟩ := h; rfl
  · obtain ⟨a0, rfl, h⟩ := h
    have tk : Takes (cxOf (L2.CX P w) P w Z.K Z.mg base nm_functions "functions" (defScope st_functions) Z.f_functions cdv A outer s H E) (fun cls d _ H => E cls d H) := takes_of rfl rfl rfl rfl
    have po : PassesOwn (model P w) (cxOf (L2.CX P w) P w Z.K Z.mg base nm_functions "functions" (defScope st_functions) Z.f_functions cdv A outer s H E).A (cxOf (L2.CX P w) P w Z.K Z.mg base nm_functions "functions" (defScope st_functions) Z.f_functions cdv A outer s H E).env (cxOf (L2.CX P w) P w Z.K Z.mg base nm_functions "functions" (defScope st_functions) Z.f_functions cdv A outer s H E).xe := passes_of rfl
    refine ⟨t_functions Z (fun cls d _ H => E cls d H), ?_, rd_functions T h⟩
    exact (pss_cons (ps_set (i := 1) sc_functions.nd rfl (Or.inl rfl) (pe_makeZ T.M_Look G_Look_init (hr.mono (by decide)) rfl T.g_Look T.b_Look_init (fun σ => passAt tk σ) (pa_cons (pv 0) pa_nil)))
      (pss_cons (ps_set (i := 2) sc_functions.nd rfl (Or.inl rfl) (pe_callS G_heads_in (hr.mono (by decide)) rfl T.m_heads_in T.k_heads_in T.b_heads_in (fun σ => passAt tk σ) (pa_cons (pv 1) pa_nil)))
      (pss_cons (ps_set (i := 3) sc_functions.nd rfl (Or.inl rfl) (pe_lst pa_nil))
      (pss_cons (ps_for po rfl (pi_list (pv 2)) (pg_un rfl (pgs_cons (pg_name (i := 4) sc_functions.nd rfl (Or.inl rfl)) (pgs_cons (pg_name (i := 5) sc_functions.nd rfl (Or.inl rfl)) pgs_nil))) (pss_one (ps_expr (pe_bm PySem.F.plainAttrs_list PySem.F.slot_list_append PySem.F.type_list_append mt_append (pv 3) (pa_cons (pe_tup (pa_cons (pv 4) (pa_cons (pv 5) (pa_cons (pe_callS G_node_in (hr.mono (by decide)) rfl T.m_node_in T.k_node_in T.b_node_in (fun σ => passAt tk σ) (pa_cons (pv 1) (pa_cons (pv 2) (pa_cons (pv 5) (pa_cons pe_int pa_nil))))) pa_nil)))) pa_nil)))))
      (pss_cons (ps_if (pt_cmpR op_lt (pe_fld (pv 1) rfl) (pe_callB call_len' (by rfl) T.n_len (by decide +kernel) (pa_cons (pe_fld (pv 1) rfl) pa_nil)) (nomark _)) (pss_one (ps_raiseO rfl tk T.ox_NoSheet T.oi_NoSheet T.ot_NoSheet G_NoSheet_init (hr.mono (by decide)) T.b_NoSheet_init passF rfl T.g_NoSheet (pa_cons (pe_fld (pv 1) rfl) (pa_cons pe_str pa_nil)))) pss_nil)
      (pss_one (ps_ret (pv 3))))))))

theorem sc_wrong : FnScope nm_wrong ["numbers"] (defScope st_wrong) := ⟨rfl, rfl, rfl, by decide +kernel, rfl, by decide +kernel, by decide +kernel⟩
theorem ok_wrong {P : Program} {w : World} {base : Heap} {Z : Adr} (T : Top Z) (G_functions : FnOk P w Z.K Z.mg base (L2.CX P w) 18 Z.f_functions Z.d_functions ["sheet"] (sp_functions Z)) : FnOk P w Z.K Z.mg base (L2.CX P w) 19 Z.f_wrong Z.d_wrong ["numbers"] (sp_wrong Z) := by
  refine FnOk.mono (T.F_wrong.okX (k := 18) sc_wrong (fun vs H Q E h => ?_) (fun cdv A outer s H vs Q E hr h => ?_)) (by decide)
  · obtain ⟨a0, rfl, _⟩ := h; rfl
  · obtain ⟨a0, rfl, h⟩ := h
    have tk : Takes (cxOf (L2.CX P w) P w Z.K Z.mg base nm_wrong "wrong" (defScope st_wrong) Z.f_wrong cdv A outer s H E) (fun cls d _ H => E cls d H) := takes_of rfl rfl rfl rfl
    have po : PassesOwn (model P w) (cxOf (L2.CX P w) P w Z.K Z.mg base nm_wrong "wrong" (defScope st_wrong) Z.f_wrong cdv A outer s H E).A (cxOf (L2.CX P w) P w Z.K Z.mg base nm_wrong "wrong" (defScope st_wrong) Z.f_wrong cdv A outer s H E).env (cxOf (L2.CX P w) P w Z.K Z.mg base nm_wrong "wrong" (defScope st_wrong) Z.f_wrong cdv A outer s H E).xe := passes_of rfl
    refine ⟨t_wrong Z (fun cls d _ H => E cls d H), ?_, rd_wrong T h⟩
    exact (pss_cons (ps_set (i := 1) sc_wrong.nd rfl (Or.inl rfl) pe_non)
      (pss_cons (ps_try_as (i := 2) (tb := (fun W => (tDrop (tCallS (sp_functions Z) (WE W) (tCons (tVar 0) tNil))))) (ts := (fun a cls d => (tAsg (tTup (tCons (tXf a cls d Z.c_NoSheet "place" (tVar 2)) (tCons (tXf a cls d Z.c_NoSheet "word" (tVar 2)) tNil))) (gName 1)))) rfl rfl sc_wrong.nd rfl rfl ⟨rfl, by decide, Or.inl T.g_NoSheet⟩ tk (fun W pn xe tk po => (pss_one (ps_expr (pe_callS G_functions (hr.mono (by decide)) rfl T.m_functions T.k_functions T.b_functions (fun σ => passAt tk σ) (pa_cons (pv 0) pa_nil))))) (fun a oe cls d pn hz hf => (pss_one (ps_set (i := 1) sc_wrong.nd rfl (Or.inl rfl) (pe_tup (pa_cons (pe_xf T.xf_NoSheet T.na_NoSheet_place hz hf (pv 2)) (pa_cons (pe_xf T.xf_NoSheet T.na_NoSheet_word hz hf (pv 2)) pa_nil)))))))
      (pss_one (ps_ret (pv 1)))))

theorem sc_nodes_in : FnScope nm_nodes_in ["node"] (defScope st_nodes_in) := ⟨rfl, rfl, rfl, by decide +kernel, rfl, by decide +kernel, by decide +kernel⟩
theorem ok_nodes_in {P : Program} {w : World} {base : Heap} {Z : Adr} (T : Top Z) (n : Nat) (G_nodes_in : FnOk P w Z.K Z.mg base (L2.CX P w) (0 + n) Z.f_nodes_in Z.d_nodes_in ["node"] (sp_nodes_in Z n)) : FnOk P w Z.K Z.mg base (L2.CX P w) (0 + n + 1) Z.f_nodes_in Z.d_nodes_in ["node"] (sp_nodes_in Z (n + 1)) := by
  refine T.F_nodes_in.okX (k := 0 + n) sc_nodes_in (fun vs H Q E h => ?_) (fun cdv A outer s H vs Q E hr h => ?_)
  · obtain ⟨a0, rfl, _⟩ := h; rfl
  · obtain ⟨a0, rfl, h⟩ := h
    have tk : Takes (cxOf (L2.CX P w) P w Z.K Z.mg base nm_nodes_in "nodes_in" (defScope st_nodes_in) Z.f_nodes_in cdv A outer s H E) (fun cls d _ H => E cls d H) := takes_of rfl rfl rfl rfl
    have po : PassesOwn (model P w) (cxOf (L2.CX P w) P w Z.K Z.mg base nm_nodes_in "nodes_in" (defScope st_nodes_in) Z.f_nodes_in cdv A outer s H E).A (cxOf (L2.CX P w) P w Z.K Z.mg base nm_nodes_in "nodes_in" (defScope st_nodes_in) Z.f_nodes_in cdv A outer s H E).env (cxOf (L2.CX P w) P w Z.K Z.mg base nm_nodes_in "nodes_in" (defScope st_nodes_in) Z.f_nodes_in cdv A outer s H E).xe := passes_of rfl
    refine ⟨t_nodes_in Z n (fun cls d _ H => E cls d H), ?_, rd_nodes_in T h⟩
    exact (pss_cons (ps_set (i := 1) sc_nodes_in.nd rfl (Or.inl rfl) (pe_lst (pa_cons (pv 0) pa_nil)))
      (pss_cons (ps_for po rfl (pi_tup (pe_ix ix_seq (pv 0) pe_int (fun _ _ => rfl))) (pg_name (i := 2) sc_nodes_in.nd rfl (Or.inl rfl)) (pss_one (ps_expr (pe_bm PySem.F.plainAttrs_list PySem.F.slot_list_extend PySem.F.type_list_extend mt_extend (pv 1) (pa_cons (pe_callS G_nodes_in (hr.mono (by omega)) rfl T.m_nodes_in T.k_nodes_in T.b_nodes_in (fun σ => passAt tk σ) (pa_cons (pv 2) pa_nil)) pa_nil)))))
      (pss_one (ps_ret (pv 1)))))

theorem sc_nodes : FnScope nm_nodes ["sheet"] (defScope st_nodes) := ⟨rfl, rfl, rfl, by decide +kernel, rfl, by decide +kernel, by decide +kernel⟩
theorem ok_nodes {P : Program} {w : World} {base : Heap} {Z : Adr} (T : Top Z) (G_functions : FnOk P w Z.K Z.mg base (L2.CX P w) 18 Z.f_functions Z.d_functions ["sheet"] (sp_functions Z)) (G_nodes_in : FnOk P w Z.K Z.mg base (L2.CX P w) (0 + 12) Z.f_nodes_in Z.d_nodes_in ["node"] (sp_nodes_in Z 12)) : FnOk P w Z.K Z.mg base (L2.CX P w) 19 Z.f_nodes Z.d_nodes ["sheet"] (sp_nodes Z) := by
  refine FnOk.mono (T.F_nodes.okX (k := 18) sc_nodes (fun vs H Q E h => ?_) (fun cdv A outer s H vs Q E hr h => ?_)) (by decide)
  · obtain ⟨a0, rfl, _⟩ := h; rfl
  · obtain ⟨a0, rfl, h⟩ := h
    have tk : Takes (cxOf (L2.CX P w) P w Z.K Z.mg base nm_nodes "nodes" (defScope st_nodes) Z.f_nodes cdv A outer s H E) (fun cls d _ H => E cls d H) := takes_of rfl rfl rfl rfl
    have po : PassesOwn (model P w) (cxOf (L2.CX P w) P w Z.K Z.mg base nm_nodes "nodes" (defScope st_nodes) Z.f_nodes cdv A outer s H E).A (cxOf (L2.CX P w) P w Z.K Z.mg base nm_nodes "nodes" (defScope st_nodes) Z.f_nodes cdv A outer s H E).env (cxOf (L2.CX P w) P w Z.K Z.mg base nm_nodes "nodes" (defScope st_nodes) Z.f_nodes cdv A outer s H E).xe := passes_of rfl
    refine ⟨t_nodes Z (fun cls d _ H => E cls d H), ?_, rd_nodes T h⟩
    exact (pss_cons (ps_set (i := 1) sc_nodes.nd rfl (Or.inl rfl) (pe_lst pa_nil))
      (pss_cons (ps_for po rfl (pi_list (pe_callS G_functions (hr.mono (by decide)) rfl T.m_functions T.k_functions T.b_functions (fun σ => passAt tk σ) (pa_cons (pv 0) pa_nil))) (pg_un rfl (pgs_cons (pg_name (i := 2) sc_nodes.nd rfl (Or.inl rfl)) (pgs_cons (pg_name (i := 3) sc_nodes.nd rfl (Or.inl rfl)) (pgs_cons (pg_name (i := 4) sc_nodes.nd rfl (Or.inl rfl)) pgs_nil)))) (pss_one (ps_expr (pe_bm PySem.F.plainAttrs_list PySem.F.slot_list_extend PySem.F.type_list_extend mt_extend (pv 1) (pa_cons (pe_callS G_nodes_in (hr.mono (by decide)) rfl T.m_nodes_in T.k_nodes_in T.b_nodes_in (fun σ => passAt tk σ) (pa_cons (pv 4) pa_nil)) pa_nil)))))
      (pss_one (ps_ret (pv 1)))))

theorem sc_Lmixed : FnScope nm_Lmixed ["_law_cell", "_law_k"] (defScope st_Lmixed) := ⟨rfl, rfl, rfl, by decide +kernel, rfl, by decide +kernel, by decide +kernel⟩
theorem ok_Lmixed {P : Program} {w : World} {base : Heap} {Z : Adr} (T : Top Z)  : FnOk P w Z.K Z.mg base (L2.CX P w) 1 Z.f_Lmixed Z.d_Lmixed ["_law_cell", "_law_k"] (sp_Lmixed Z) := by
  refine FnOk.mono (T.F_Lmixed.okX (k := 0) sc_Lmixed (fun vs H Q E h => ?_) (fun cdv A outer s H vs Q E hr h => ?_)) (by decide)
  · obtain ⟨a0, a1, rfl, _⟩ := h; rfl
  · obtain ⟨a0, a1, rfl, h⟩ := h
    have tk : Takes (cxOf (L2.CX P w) P w Z.K Z.mg base nm_Lmixed "_law_mixed" (defScope st_Lmixed) Z.f_Lmixed cdv A outer s H E) (fun cls d _ H => E cls d H) := takes_of rfl rfl rfl rfl
    have po : PassesOwn (model P w) (cxOf (L2.CX P w) P w Z.K Z.mg base nm_Lmixed "_law_mixed" (defScope st_Lmixed) Z.f_Lmixed cdv A outer s H E).A (cxOf (L2.CX P w) P w Z.K Z.mg base nm_Lmixed "_law_mixed" (defScope st_Lmixed) Z.f_Lmixed cdv A outer s H E).env (cxOf (L2.CX P w) P w Z.K Z.mg base nm_Lmixed "_law_mixed" (defScope st_Lmixed) Z.f_Lmixed cdv A outer s H E).xe := passes_of rfl
    refine ⟨t_Lmixed Z (fun cls d _ H => E cls d H), ?_, rd_Lmixed T h⟩
    exact (pss_cons (ps_set (i := 2) sc_Lmixed.nd rfl (Or.inl rfl) (pe_op op_md (pe_op op_ml (pe_op op_addU (pe_op op_addU (pe_op op_md (pv 0) pe_int) (pe_op op_ml pe_int (pv 1))) pe_int) pe_int) pe_int))
      (pss_cons (ps_set (i := 3) sc_Lmixed.nd rfl (Or.inl rfl) (pe_op op_md (pe_op op_addU (pe_op op_addU (pe_op op_ml (pv 2) (pv 2)) (pe_op op_ml pe_int (pv 2))) (pe_op op_ml pe_int (pv 1))) pe_int))
      (pss_one (ps_ret (pe_op op_fdv (pe_op op_md (pe_op op_ml (pv 3) (pe_op op_addU (pv 3) pe_int)) pe_int) pe_int)))))

theorem sc_Ltake : FnScope nm_Ltake ["_law_state", "_law_many_here"] (defScope st_Ltake) := ⟨rfl, rfl, rfl, by decide +kernel, rfl, by decide +kernel, by decide +kernel⟩
theorem ok_Ltake {P : Program} {w : World} {base : Heap} {Z : Adr} (T : Top Z) (G_Lmixed : FnOk P w Z.K Z.mg base (L2.CX P w) 1 Z.f_Lmixed Z.d_Lmixed ["_law_cell", "_law_k"] (sp_Lmixed Z)) : FnOk P w Z.K Z.mg base (L2.CX P w) 2 Z.f_Ltake Z.d_Ltake ["_law_state", "_law_many_here"] (sp_Ltake Z) := by
  refine FnOk.mono (T.F_Ltake.okX (k := 1) sc_Ltake (fun vs H Q E h => ?_) (fun cdv A outer s H vs Q E hr h => ?_)) (by decide)
  · obtain ⟨a0, a1, rfl, _⟩ := h; rfl
  · obtain ⟨a0, a1, rfl, h⟩ := h
    have tk : Takes (cxOf (L2.CX P w) P w Z.K Z.mg base nm_Ltake "_law_take" (defScope st_Ltake) Z.f_Ltake cdv A outer s H E) (fun cls d _ H => E cls d H) := takes_of rfl rfl rfl rfl
    have po : PassesOwn (model P w) (cxOf (L2.CX P w) P w Z.K Z.mg base nm_Ltake "_law_take" (defScope st_Ltake) Z.f_Ltake cdv A outer s H E).A (cxOf (L2.CX P w) P w Z.K Z.mg base nm_Ltake "_law_take" (defScope st_Ltake) Z.f_Ltake cdv A outer s H E).env (cxOf (L2.CX P w) P w Z.K Z.mg base nm_Ltake "_law_take" (defScope st_Ltake) Z.f_Ltake cdv A outer s H E).xe := passes_of rfl
    refine ⟨t_Ltake Z (fun cls d _ H => E cls d H), ?_, rd_Ltake T h⟩
    exact (C8.pss_cut (ps_if (pt_cmpR (op_eqU (hr.units)) (pe_ix ix_seq (pv 0) pe_int (fun _ _ => rfl)) pe_int (nomark _)) (pss_cons (ps_set (i := 2) sc_Ltake.nd rfl (Or.inl rfl) (pe_ix ix_seq (pv 0) pe_int (fun _ _ => rfl)))
      (pss_cons (ps_set (i := 3) sc_Ltake.nd rfl (Or.inl rfl) (pe_ix ix_seq (pv 0) pe_int (fun _ _ => rfl)))
      (pss_cons (ps_asg (pe_op op_addU (pv 3) pe_int) (pg_sub (pv 0) pe_int set_list))
      (pss_cons (ps_set (i := 4) sc_Ltake.nd rfl (Or.inl rfl) pe_int)
      (C8.pss_cut (ps_if (pt_cmpR op_lt (pv 3) (pe_callB call_len' (by rfl) T.n_len (by decide +kernel) (pa_cons (pv 2) pa_nil)) (nomark _)) (pss_one (ps_set (i := 4) sc_Ltake.nd rfl (Or.inl rfl) (pe_ix ix_seq (pv 2) (pv 3) (fun _ _ => rfl)))) (pss_one (ps_if (pt_cmpR op_gt (pe_callB call_len' (by rfl) T.n_len (by decide +kernel) (pa_cons (pv 2) pa_nil)) pe_int (nomark _)) (pss_one (ps_set (i := 4) sc_Ltake.nd rfl (Or.inl rfl) (pe_op op_md (pe_ix ix_seq (pv 2) (pe_op op_md (pv 3) (pe_callB call_len' (by rfl) T.n_len (by decide +kernel) (pa_cons (pv 2) pa_nil))) (fun _ _ => rfl)) (pe_powc (by unfold CPow; decide) (by decide +kernel))))) pss_nil)))
      (pss_cons (ps_if (pt_cmpR op_lt (pe_callB call_abs' (by rfl) T.n_abs (by decide +kernel) (pa_cons (pv 4) pa_nil)) (pe_powc (by unfold CPow; decide) (by decide +kernel)) (nomark _)) (pss_one (ps_ret (pe_op op_md (pe_callS G_Lmixed (hr.mono (by decide)) rfl T.m_Lmixed T.k_Lmixed T.b_Lmixed (fun σ => passAt tk σ) (pa_cons (pv 4) (pa_cons (pv 3) pa_nil))) (pv 1)))) pss_nil)
      (pss_one (ps_asg (pe_callB call_abs' (by rfl) T.n_abs (by decide +kernel) (pa_cons (pv 4) pa_nil)) (pg_sub (pv 0) pe_int set_list))))))))) pss_nil)
      (pss_cons (ps_set (i := 5) sc_Ltake.nd rfl (Or.inl rfl) (pe_op op_md (pe_ix ix_seq (pv 0) pe_int (fun _ _ => rfl)) (pv 1)))
      (pss_cons (ps_asg (pe_op op_fdv (pe_ix ix_seq (pv 0) pe_int (fun _ _ => rfl)) (pv 1)) (pg_sub (pv 0) pe_int set_list))
      (pss_one (ps_ret (pv 5))))))

theorem sc_Lheads : FnScope nm_Lheads ["_law_state"] (defScope st_Lheads) := ⟨rfl, rfl, rfl, by decide +kernel, rfl, by decide +kernel, by decide +kernel⟩
theorem ok_Lheads {P : Program} {w : World} {base : Heap} {Z : Adr} (T : Top Z) (G_Ltake : FnOk P w Z.K Z.mg base (L2.CX P w) 2 Z.f_Ltake Z.d_Ltake ["_law_state", "_law_many_here"] (sp_Ltake Z)) : FnOk P w Z.K Z.mg base (L2.CX P w) 3 Z.f_Lheads Z.d_Lheads ["_law_state"] (sp_Lheads Z) := by
  refine FnOk.mono (T.F_Lheads.okX (k := 2) sc_Lheads (fun vs H Q E h => ?_) (fun cdv A outer s H vs Q E hr h => ?_)) (by decide)
  · obtain ⟨a0, rfl, _⟩ := h; rfl
  · obtain ⟨a0, rfl, h⟩ := h
    have tk : Takes (cxOf (L2.CX P w) P w Z.K Z.mg base nm_Lheads "_law_heads" (defScope st_Lheads) Z.f_Lheads cdv A outer s H E) (fun cls d _ H => E cls d H) := takes_of rfl rfl rfl rfl
    have po : PassesOwn (model P w) (cxOf (L2.CX P w) P w Z.K Z.mg base nm_Lheads "_law_heads" (defScope st_Lheads) Z.f_Lheads cdv A outer s H E).A (cxOf (L2.CX P w) P w Z.K Z.mg base nm_Lheads "_law_heads" (defScope st_Lheads) Z.f_Lheads cdv A outer s H E).env (cxOf (L2.CX P w) P w Z.K Z.mg base nm_Lheads "_law_heads" (defScope st_Lheads) Z.f_Lheads cdv A outer s H E).xe := passes_of rfl
    refine ⟨t_Lheads Z (fun cls d _ H => E cls d H), ?_, rd_Lheads T h⟩
    exact (pss_cons (ps_set (i := 1) sc_Lheads.nd rfl (Or.inl rfl) (pe_op op_addU pe_int (pe_callS G_Ltake (hr.mono (by decide)) rfl T.m_Ltake T.k_Ltake T.b_Ltake (fun σ => passAt tk σ) (pa_cons (pv 0) (pa_cons pe_int pa_nil)))))
      (C8.pss_cut (ps_if (pt_cmpR (op_eqU (hr.units)) (pe_callS G_Ltake (hr.mono (by decide)) rfl T.m_Ltake T.k_Ltake T.b_Ltake (fun σ => passAt tk σ) (pa_cons (pv 0) (pa_cons pe_int pa_nil))) pe_int (nomark _)) (pss_one (ps_set (i := 1) sc_Lheads.nd rfl (Or.inl rfl) (pe_op op_addU pe_int (pe_callS G_Ltake (hr.mono (by decide)) rfl T.m_Ltake T.k_Ltake T.b_Ltake (fun σ => passAt tk σ) (pa_cons (pv 0) (pa_cons pe_int pa_nil)))))) pss_nil)
      (pss_cons (ps_set (i := 2) sc_Lheads.nd rfl (Or.inl rfl) (pe_lst pa_nil))
      (pss_cons (ps_for po rfl (pi_range1 rfl T.n_range (pa_cons (pv 1) pa_nil)) (pg_name (i := 3) sc_Lheads.nd rfl (Or.inl rfl)) (pss_cons (ps_set (i := 4) sc_Lheads.nd rfl (Or.inl rfl) (pe_op op_ml (pe_callS G_Ltake (hr.mono (by decide)) rfl T.m_Ltake T.k_Ltake T.b_Ltake (fun σ => passAt tk σ) (pa_cons (pv 0) (pa_cons pe_int pa_nil))) (pe_callTy call_int' (by rfl) T.n_int (by decide +kernel) (pa_cons (pe_cmpR op_gt (pv 3) pe_int (nomark _)) pa_nil))))
      (pss_one (ps_expr (pe_bm PySem.F.plainAttrs_list PySem.F.slot_list_append PySem.F.type_list_append mt_append (pv 2) (pa_cons (pe_tup (pa_cons (pv 4) (pa_cons (pe_op op_addU (pv 4) (pe_callS G_Ltake (hr.mono (by decide)) rfl T.m_Ltake T.k_Ltake T.b_Ltake (fun σ => passAt tk σ) (pa_cons (pv 0) (pa_cons (pe_ix ix_seq (pe_lst (pa_cons (pe_op op_sub pe_int (pv 4)) (pa_cons pe_int pa_nil))) (pe_callS G_Ltake (hr.mono (by decide)) rfl T.m_Ltake T.k_Ltake T.b_Ltake (fun σ => passAt tk σ) (pa_cons (pv 0) (pa_cons pe_int pa_nil))) (fun _ _ => rfl)) pa_nil)))) pa_nil))) pa_nil))))))
      (pss_one (ps_ret (pv 2)))))))

theorem sc_Lnumber : FnScope nm_Lnumber ["_law_state"] (defScope st_Lnumber) := ⟨rfl, rfl, rfl, by decide +kernel, rfl, by decide +kernel, by decide +kernel⟩
theorem ok_Lnumber {P : Program} {w : World} {base : Heap} {Z : Adr} (T : Top Z) (G_Ltake : FnOk P w Z.K Z.mg base (L2.CX P w) 2 Z.f_Ltake Z.d_Ltake ["_law_state", "_law_many_here"] (sp_Ltake Z)) : FnOk P w Z.K Z.mg base (L2.CX P w) 3 Z.f_Lnumber Z.d_Lnumber ["_law_state"] (sp_Lnumber Z) := by
  refine FnOk.mono (T.F_Lnumber.okX (k := 2) sc_Lnumber (fun vs H Q E h => ?_) (fun cdv A outer s H vs Q E hr h => ?_)) (by decide)
  · obtain ⟨a0, rfl, _⟩ := h; rfl
  · obtain ⟨a0, rfl, h⟩ := h
    have tk : Takes (cxOf (L2.CX P w) P w Z.K Z.mg base nm_Lnumber "_law_number" (defScope st_Lnumber) Z.f_Lnumber cdv A outer s H E) (fun cls d _ H => E cls d H) := takes_of rfl rfl rfl rfl
    have po : PassesOwn (model P w) (cxOf (L2.CX P w) P w Z.K Z.mg base nm_Lnumber "_law_number" (defScope st_Lnumber) Z.f_Lnumber cdv A outer s H E).A (cxOf (L2.CX P w) P w Z.K Z.mg base nm_Lnumber "_law_number" (defScope st_Lnumber) Z.f_Lnumber cdv A outer s H E).env (cxOf (L2.CX P w) P w Z.K Z.mg base nm_Lnumber "_law_number" (defScope st_Lnumber) Z.f_Lnumber cdv A outer s H E).xe := passes_of rfl
    refine ⟨t_Lnumber Z (fun cls d _ H => E cls d H), ?_, rd_Lnumber T h⟩
    exact (pss_cons (ps_set (i := 1) sc_Lnumber.nd rfl (Or.inl rfl) (pe_callS G_Ltake (hr.mono (by decide)) rfl T.m_Ltake T.k_Ltake T.b_Ltake (fun σ => passAt tk σ) (pa_cons (pv 0) (pa_cons pe_int pa_nil))))
      (pss_cons (ps_if (pt_cmpR op_lt (pv 1) pe_int (nomark _)) (pss_one (ps_ret (pe_op op_sub (pe_callS G_Ltake (hr.mono (by decide)) rfl T.m_Ltake T.k_Ltake T.b_Ltake (fun σ => passAt tk σ) (pa_cons (pv 0) (pa_cons pe_int pa_nil))) pe_int))) pss_nil)
      (pss_cons (ps_if (pt_cmpR (op_eqU (hr.units)) (pv 1) pe_int (nomark _)) (pss_one (ps_ret (pe_op op_sub (pe_callS G_Ltake (hr.mono (by decide)) rfl T.m_Ltake T.k_Ltake T.b_Ltake (fun σ => passAt tk σ) (pa_cons (pv 0) (pa_cons pe_int pa_nil))) pe_int))) pss_nil)
      (pss_one (ps_ret (pe_op op_addU (pe_op op_sub (pe_callS G_Ltake (hr.mono (by decide)) rfl T.m_Ltake T.k_Ltake T.b_Ltake (fun σ => passAt tk σ) (pa_cons (pv 0) (pa_cons (pe_op op_sub (pe_op op_ml pe_int (pe_powc (by unfold CPow; decide) (by decide +kernel))) pe_int) pa_nil))) (pe_powc (by unfold CPow; decide) (by decide +kernel))) pe_int))))))

theorem sc_Lleaf : FnScope nm_Lleaf ["_law_state", "_law_boxes"] (defScope st_Lleaf) := ⟨rfl, rfl, rfl, by decide +kernel, rfl, by decide +kernel, by decide +kernel⟩
theorem ok_Lleaf {P : Program} {w : World} {base : Heap} {Z : Adr} (T : Top Z) (G_Ltake : FnOk P w Z.K Z.mg base (L2.CX P w) 2 Z.f_Ltake Z.d_Ltake ["_law_state", "_law_many_here"] (sp_Ltake Z)) (G_Lnumber : FnOk P w Z.K Z.mg base (L2.CX P w) 3 Z.f_Lnumber Z.d_Lnumber ["_law_state"] (sp_Lnumber Z)) : FnOk P w Z.K Z.mg base (L2.CX P w) 4 Z.f_Lleaf Z.d_Lleaf ["_law_state", "_law_boxes"] (sp_Lleaf Z) := by
  refine FnOk.mono (T.F_Lleaf.okX (k := 3) sc_Lleaf (fun vs H Q E h => ?_) (fun cdv A outer s H vs Q E hr h => ?_)) (by decide)
  · obtain ⟨a0, a1, rfl, _⟩ := h; rfl
  · obtain ⟨a0, a1, rfl, h⟩ := h
    have tk : Takes (cxOf (L2.CX P w) P w Z.K Z.mg base nm_Lleaf "_law_leaf" (defScope st_Lleaf) Z.f_Lleaf cdv A outer s H E) (fun cls d _ H => E cls d H) := takes_of rfl rfl rfl rfl
    have po : PassesOwn (model P w) (cxOf (L2.CX P w) P w Z.K Z.mg base nm_Lleaf "_law_leaf" (defScope st_Lleaf) Z.f_Lleaf cdv A outer s H E).A (cxOf (L2.CX P w) P w Z.K Z.mg base nm_Lleaf "_law_leaf" (defScope st_Lleaf) Z.f_Lleaf cdv A outer s H E).env (cxOf (L2.CX P w) P w Z.K Z.mg base nm_Lleaf "_law_leaf" (defScope st_Lleaf) Z.f_Lleaf cdv A outer s H E).xe := passes_of rfl
    refine ⟨t_Lleaf Z (fun cls d _ H => E cls d H), ?_, rd_Lleaf T h⟩
    exact (pss_cons (ps_set (i := 2) sc_Lleaf.nd rfl (Or.inl rfl) (pe_callS G_Ltake (hr.mono (by decide)) rfl T.m_Ltake T.k_Ltake T.b_Ltake (fun σ => passAt tk σ) (pa_cons (pv 0) (pa_cons pe_int pa_nil))))
      (pss_cons (ps_if (PW.pt (pw_and (pt_cmpR op_lt (pv 2) pe_int (nomark _)) (pw_and1 (pt_cmpR op_gt (pv 1) pe_int (nomark _))))) (pss_one (ps_ret (pe_lst (pa_cons pe_int (pa_cons (pe_callS G_Ltake (hr.mono (by decide)) rfl T.m_Ltake T.k_Ltake T.b_Ltake (fun σ => passAt tk σ) (pa_cons (pv 0) (pa_cons (pv 1) pa_nil))) pa_nil))))) pss_nil)
      (pss_cons (ps_if (pt_cmpR (op_eqU (hr.units)) (pv 2) pe_int (nomark _)) (pss_one (ps_ret (pe_lst (pa_cons pe_int pa_nil)))) pss_nil)
      (pss_one (ps_ret (pe_lst (pa_cons pe_int (pa_cons (pe_callS G_Lnumber (hr.mono (by decide)) rfl T.m_Lnumber T.k_Lnumber T.b_Lnumber (fun σ => passAt tk σ) (pa_cons (pv 0) pa_nil)) pa_nil))))))))

theorem sc_Lhead : FnScope nm_Lhead ["_law_state", "_law_heads_here", "_law_boxes"] (defScope st_Lhead) := ⟨rfl, rfl, rfl, by decide +kernel, rfl, by decide +kernel, by decide +kernel⟩
theorem ok_Lhead {P : Program} {w : World} {base : Heap} {Z : Adr} (T : Top Z) (G_Ltake : FnOk P w Z.K Z.mg base (L2.CX P w) 2 Z.f_Ltake Z.d_Ltake ["_law_state", "_law_many_here"] (sp_Ltake Z)) : FnOk P w Z.K Z.mg base (L2.CX P w) 3 Z.f_Lhead Z.d_Lhead ["_law_state", "_law_heads_here", "_law_boxes"] (sp_Lhead Z) := by
  refine FnOk.mono (T.F_Lhead.okX (k := 2) sc_Lhead (fun vs H Q E h => ?_) (fun cdv A outer s H vs Q E hr h => ?_)) (by decide)
  · obtain ⟨a0, a1, a2, rfl, _⟩ := h; rfl
  · obtain ⟨a0, a1, a2, rfl, h⟩ := h
    have tk : Takes (cxOf (L2.CX P w) P w Z.K Z.mg base nm_Lhead "_law_head" (defScope st_Lhead) Z.f_Lhead cdv A outer s H E) (fun cls d _ H => E cls d H) := takes_of rfl rfl rfl rfl
    have po : PassesOwn (model P w) (cxOf (L2.CX P w) P w Z.K Z.mg base nm_Lhead "_law_head" (defScope st_Lhead) Z.f_Lhead cdv A outer s H E).A (cxOf (L2.CX P w) P w Z.K Z.mg base nm_Lhead "_law_head" (defScope st_Lhead) Z.f_Lhead cdv A outer s H E).env (cxOf (L2.CX P w) P w Z.K Z.mg base nm_Lhead "_law_head" (defScope st_Lhead) Z.f_Lhead cdv A outer s H E).xe := passes_of rfl
    refine ⟨t_Lhead Z (fun cls d _ H => E cls d H), ?_, rd_Lhead T h⟩
    exact (pss_cons (ps_set (i := 3) sc_Lhead.nd rfl (Or.inl rfl) (pe_callS G_Ltake (hr.mono (by decide)) rfl T.m_Ltake T.k_Ltake T.b_Ltake (fun σ => passAt tk σ) (pa_cons (pv 0) (pa_cons pe_int pa_nil))))
      (pss_cons (ps_if (PW.pt (pw_and (pt_cmpR (op_eqU (hr.units)) (pv 3) pe_int (nomark _)) (pw_and1 (pt_cmpR op_gt (pv 2) pe_int (nomark _))))) (pss_one (ps_ret (pe_tup (pa_cons (pe_lst (pa_cons pe_int (pa_cons (pe_callS G_Ltake (hr.mono (by decide)) rfl T.m_Ltake T.k_Ltake T.b_Ltake (fun σ => passAt tk σ) (pa_cons (pv 0) (pa_cons (pv 2) pa_nil))) pa_nil))) (pa_cons pe_int pa_nil))))) pss_nil)
      (pss_cons (ps_if (pt_cmpR (op_eqU (hr.units)) (pv 3) pe_int (nomark _)) (pss_cons (ps_set (i := 4) sc_Lhead.nd rfl (Or.inl rfl) (pe_op op_addU pe_int (pe_callS G_Ltake (hr.mono (by decide)) rfl T.m_Ltake T.k_Ltake T.b_Ltake (fun σ => passAt tk σ) (pa_cons (pv 0) (pa_cons (pe_ix ix_seq (pe_lst (pa_cons pe_int (pa_cons pe_int (pa_cons pe_int (pa_cons pe_int pa_nil))))) (pe_callS G_Ltake (hr.mono (by decide)) rfl T.m_Ltake T.k_Ltake T.b_Ltake (fun σ => passAt tk σ) (pa_cons (pv 0) (pa_cons pe_int pa_nil))) (fun _ _ => rfl)) pa_nil)))))
      (pss_one (ps_ret (pe_tup (pa_cons (pe_lst (pa_cons pe_int (pa_cons (pv 4) pa_nil))) (pa_cons (pv 4) pa_nil)))))) pss_nil)
      (pss_cons (ps_if (pt_cmpR (op_eqU (hr.units)) (pv 3) pe_int (nomark _)) (pss_cons (ps_set (i := 4) sc_Lhead.nd rfl (Or.inl rfl) (pe_op op_addU pe_int (pe_callS G_Ltake (hr.mono (by decide)) rfl T.m_Ltake T.k_Ltake T.b_Ltake (fun σ => passAt tk σ) (pa_cons (pv 0) (pa_cons (pe_ix ix_seq (pe_lst (pa_cons pe_int (pa_cons pe_int (pa_cons pe_int (pa_cons pe_int pa_nil))))) (pe_callS G_Ltake (hr.mono (by decide)) rfl T.m_Ltake T.k_Ltake T.b_Ltake (fun σ => passAt tk σ) (pa_cons (pv 0) (pa_cons pe_int pa_nil))) (fun _ _ => rfl)) pa_nil)))))
      (pss_one (ps_ret (pe_tup (pa_cons (pe_lst (pa_cons pe_int (pa_cons (pv 4) pa_nil))) (pa_cons (pe_op op_addU (pv 4) pe_int) pa_nil)))))) pss_nil)
      (pss_cons (ps_if (pt_cmpR (op_eqU (hr.units)) (pv 3) pe_int (nomark _)) (pss_cons (ps_set (i := 5) sc_Lhead.nd rfl (Or.inl rfl) (pe_callS G_Ltake (hr.mono (by decide)) rfl T.m_Ltake T.k_Ltake T.b_Ltake (fun σ => passAt tk σ) (pa_cons (pv 0) (pa_cons (pe_callB call_len' (by rfl) T.n_len (by decide +kernel) (pa_cons (pv 1) pa_nil)) pa_nil))))
      (pss_one (ps_ret (pe_tup (pa_cons (pe_lst (pa_cons pe_int (pa_cons (pv 5) pa_nil))) (pa_cons (pe_ix ix_seq (pe_ix ix_seq (pv 1) (pv 5) (fun _ _ => rfl)) pe_int (fun _ _ => rfl)) pa_nil)))))) pss_nil)
      (pss_one (ps_ret (pe_tup (pa_cons (pe_lst (pa_cons (pv 3) pa_nil)) (pa_cons (pe_ix ix_seq (pe_lst (pa_cons pe_int (pa_cons pe_int (pa_cons pe_int (pa_cons pe_int (pa_cons pe_int (pa_cons pe_int (pa_cons pe_int (pa_cons pe_int (pa_cons pe_int (pa_cons pe_int (pa_cons pe_int (pa_cons pe_int (pa_cons pe_int (pa_cons pe_int (pa_cons pe_int (pa_cons pe_int (pa_cons pe_int (pa_cons pe_int (pa_cons pe_int (pa_cons pe_int pa_nil))))))))))))))))))))) (pv 3) (fun _ _ => rfl)) pa_nil))))))))))

theorem sc_Lnode : FnScope nm_Lnode ["_law_state", "_law_heads_here", "_law_boxes", "_law_deep", "_law_room"] (defScope st_Lnode) := ⟨rfl, rfl, rfl, by decide +kernel, rfl, by decide +kernel, by decide +kernel⟩
theorem ok_Lnode {P : Program} {w : World} {base : Heap} {Z : Adr} (T : Top Z) (n : Nat) (G_Lhead : FnOk P w Z.K Z.mg base (L2.CX P w) 3 Z.f_Lhead Z.d_Lhead ["_law_state", "_law_heads_here", "_law_boxes"] (sp_Lhead Z)) (G_Lleaf : FnOk P w Z.K Z.mg base (L2.CX P w) 4 Z.f_Lleaf Z.d_Lleaf ["_law_state", "_law_boxes"] (sp_Lleaf Z)) (G_Lnode : FnOk P w Z.K Z.mg base (L2.CX P w) (4 + n) Z.f_Lnode Z.d_Lnode ["_law_state", "_law_heads_here", "_law_boxes", "_law_deep", "_law_room"] (sp_Lnode Z n)) : FnOk P w Z.K Z.mg base (L2.CX P w) (4 + n + 1) Z.f_Lnode Z.d_Lnode ["_law_state", "_law_heads_here", "_law_boxes", "_law_deep", "_law_room"] (sp_Lnode Z (n + 1)) := by
  refine T.F_Lnode.okX (k := 4 + n) sc_Lnode (fun vs H Q E h => ?_) (fun cdv A outer s H vs Q E hr h => ?_)
  · obtain ⟨a0, a1, a2, a3, a4, rfl, _⟩ := h; rfl
  · obtain ⟨a0, a1, a2, a3, a4, rfl, h⟩ := h
    have tk : Takes (cxOf (L2.CX P w) P w Z.K Z.mg base nm_Lnode "_law_node" (defScope st_Lnode) Z.f_Lnode cdv A outer s H E) (fun cls d _ H => E cls d H) := takes_of rfl rfl rfl rfl
    have po : PassesOwn (model P w) (cxOf (L2.CX P w) P w Z.K Z.mg base nm_Lnode "_law_node" (defScope st_Lnode) Z.f_Lnode cdv A outer s H E).A (cxOf (L2.CX P w) P w Z.K Z.mg base nm_Lnode "_law_node" (defScope st_Lnode) Z.f_Lnode cdv A outer s H E).env (cxOf (L2.CX P w) P w Z.K Z.mg base nm_Lnode "_law_node" (defScope st_Lnode) Z.f_Lnode cdv A outer s H E).xe := passes_of rfl
    refine ⟨t_Lnode Z n (fun cls d _ H => E cls d H), ?_, rd_Lnode T h⟩
    exact (pss_cons (ps_asg (pe_callS G_Lhead (hr.mono (by omega)) rfl T.m_Lhead T.k_Lhead T.b_Lhead (fun σ => passAt tk σ) (pa_cons (pv 0) (pa_cons (pv 1) (pa_cons (pv 2) pa_nil)))) (pg_un rfl (pgs_cons (pg_name (i := 5) sc_Lnode.nd rfl (Or.inl rfl)) (pgs_cons (pg_name (i := 6) sc_Lnode.nd rfl (Or.inl rfl)) pgs_nil))))
      (pss_cons (ps_if (PW.pt (pw_or (PW.pt (pw_and (pt_cmpR op_lt (pe_ix ix_seq (pv 5) pe_int (fun _ _ => rfl)) pe_int (nomark _)) (pw_and1 (pt_cmpR op_lt (pe_callB call_len' (by rfl) T.n_len (by decide +kernel) (pa_cons (pv 5) pa_nil)) pe_int (nomark _))))) (pw_or (pt_cmpR op_gt (pv 6) (pe_ix ix_seq (pv 4) pe_int (fun _ _ => rfl)) (nomark _)) (pw_or1 (PW.pt (pw_and (pt_cmpR op_gt (pv 6) pe_int (nomark _)) (pw_and1 (pt_cmpR op_gt (pv 3) pe_int (nomark _))))))))) (pss_one (ps_ret (pe_callS G_Lleaf (hr.mono (by omega)) rfl T.m_Lleaf T.k_Lleaf T.b_Lleaf (fun σ => passAt tk σ) (pa_cons (pv 0) (pa_cons (pv 2) pa_nil))))) pss_nil)
      (pss_cons (ps_asg (pe_op op_sub (pe_ix ix_seq (pv 4) pe_int (fun _ _ => rfl)) (pv 6)) (pg_sub (pv 4) pe_int set_list))
      (pss_cons (ps_for po rfl (pi_range1 rfl T.n_range (pa_cons (pv 6) pa_nil)) (pg_name (i := 7) sc_Lnode.nd rfl (Or.inl rfl)) (pss_one (ps_set (i := 5) sc_Lnode.nd rfl (Or.inl rfl) (pe_op op_addU (pv 5) (pe_callS G_Lnode (hr.mono (by omega)) rfl T.m_Lnode T.k_Lnode T.b_Lnode (fun σ => passAt tk σ) (pa_cons (pv 0) (pa_cons (pv 1) (pa_cons (pv 2) (pa_cons (pe_op op_addU (pv 3) pe_int) (pa_cons (pv 4) pa_nil))))))))))
      (pss_one (ps_ret (pv 5)))))))

theorem sc_Lsheet : FnScope nm_Lsheet ["_law_state", "_law_most"] (defScope st_Lsheet) := ⟨rfl, rfl, rfl, by decide +kernel, rfl, by decide +kernel, by decide +kernel⟩
theorem ok_Lsheet {P : Program} {w : World} {base : Heap} {Z : Adr} (T : Top Z) (G_Lheads : FnOk P w Z.K Z.mg base (L2.CX P w) 3 Z.f_Lheads Z.d_Lheads ["_law_state"] (sp_Lheads Z)) (G_Lnode : FnOk P w Z.K Z.mg base (L2.CX P w) (4 + 12) Z.f_Lnode Z.d_Lnode ["_law_state", "_law_heads_here", "_law_boxes", "_law_deep", "_law_room"] (sp_Lnode Z 12)) (G_Ltake : FnOk P w Z.K Z.mg base (L2.CX P w) 2 Z.f_Ltake Z.d_Ltake ["_law_state", "_law_many_here"] (sp_Ltake Z)) : FnOk P w Z.K Z.mg base (L2.CX P w) 17 Z.f_Lsheet Z.d_Lsheet ["_law_state", "_law_most"] (sp_Lsheet Z) := by
  refine FnOk.mono (T.F_Lsheet.okX (k := 16) sc_Lsheet (fun vs H Q E h => ?_) (fun cdv A outer s H vs Q E hr h => ?_)) (by decide)
  · obtain ⟨a0, a1, rfl, _⟩ := h; rfl
  · obtain ⟨a0, a1, rfl, h⟩ := h
    have tk : Takes (cxOf (L2.CX P w) P w Z.K Z.mg base nm_Lsheet "_law_sheet" (defScope st_Lsheet) Z.f_Lsheet cdv A outer s H E) (fun cls d _ H => E cls d H) := takes_of rfl rfl rfl rfl
    have po : PassesOwn (model P w) (cxOf (L2.CX P w) P w Z.K Z.mg base nm_Lsheet "_law_sheet" (defScope st_Lsheet) Z.f_Lsheet cdv A outer s H E).A (cxOf (L2.CX P w) P w Z.K Z.mg base nm_Lsheet "_law_sheet" (defScope st_Lsheet) Z.f_Lsheet cdv A outer s H E).env (cxOf (L2.CX P w) P w Z.K Z.mg base nm_Lsheet "_law_sheet" (defScope st_Lsheet) Z.f_Lsheet cdv A outer s H E).xe := passes_of rfl
    refine ⟨t_Lsheet Z (fun cls d _ H => E cls d H), ?_, rd_Lsheet T h⟩
    exact (pss_cons (ps_set (i := 2) sc_Lsheet.nd rfl (Or.inl rfl) (pe_callS G_Lheads (hr.mono (by decide)) rfl T.m_Lheads T.k_Lheads T.b_Lheads (fun σ => passAt tk σ) (pa_cons (pv 0) pa_nil)))
      (pss_cons (ps_set (i := 3) sc_Lsheet.nd rfl (Or.inl rfl) (pe_lst (pa_cons (pe_callB call_len' (by rfl) T.n_len (by decide +kernel) (pa_cons (pv 2) pa_nil)) pa_nil)))
      (pss_cons (ps_for po rfl (pi_list (pv 2)) (pg_un rfl (pgs_cons (pg_name (i := 4) sc_Lsheet.nd rfl (Or.inl rfl)) (pgs_cons (pg_name (i := 5) sc_Lsheet.nd rfl (Or.inl rfl)) pgs_nil))) (pss_one (ps_expr (pe_bm PySem.F.plainAttrs_list PySem.F.slot_list_extend PySem.F.type_list_extend mt_extend (pv 3) (pa_cons (pe_lst (pa_cons (pv 4) (pa_cons (pv 5) pa_nil))) pa_nil)))))
      (pss_cons (ps_for po rfl (pi_list (pv 2)) (pg_un rfl (pgs_cons (pg_name (i := 4) sc_Lsheet.nd rfl (Or.inl rfl)) (pgs_cons (pg_name (i := 5) sc_Lsheet.nd rfl (Or.inl rfl)) pgs_nil))) (pss_one (ps_expr (pe_bm PySem.F.plainAttrs_list PySem.F.slot_list_extend PySem.F.type_list_extend mt_extend (pv 3) (pa_cons (pe_callS G_Lnode (hr.mono (by decide)) rfl T.m_Lnode T.k_Lnode T.b_Lnode (fun σ => passAt tk σ) (pa_cons (pv 0) (pa_cons (pv 2) (pa_cons (pv 5) (pa_cons pe_int (pa_cons (pe_lst (pa_cons (pe_callS G_Ltake (hr.mono (by decide)) rfl T.m_Ltake T.k_Ltake T.b_Ltake (fun σ => passAt tk σ) (pa_cons (pv 0) (pa_cons (pv 1) pa_nil))) pa_nil)) pa_nil)))))) pa_nil)))))
      (pss_one (ps_ret (pv 3)))))))

theorem sc_Lsheet_with : FnScope nm_Lsheet_with ["_law_state", "_law_heads_here", "_law_most"] (defScope st_Lsheet_with) := ⟨rfl, rfl, rfl, by decide +kernel, rfl, by decide +kernel, by decide +kernel⟩
theorem ok_Lsheet_with {P : Program} {w : World} {base : Heap} {Z : Adr} (T : Top Z) (G_Lnode : FnOk P w Z.K Z.mg base (L2.CX P w) (4 + 12) Z.f_Lnode Z.d_Lnode ["_law_state", "_law_heads_here", "_law_boxes", "_law_deep", "_law_room"] (sp_Lnode Z 12)) (G_Ltake : FnOk P w Z.K Z.mg base (L2.CX P w) 2 Z.f_Ltake Z.d_Ltake ["_law_state", "_law_many_here"] (sp_Ltake Z)) : FnOk P w Z.K Z.mg base (L2.CX P w) 17 Z.f_Lsheet_with Z.d_Lsheet_with ["_law_state", "_law_heads_here", "_law_most"] (sp_Lsheet_with Z) := by
  refine FnOk.mono (T.F_Lsheet_with.okX (k := 16) sc_Lsheet_with (fun vs H Q E h => ?_) (fun cdv A outer s H vs Q E hr h => ?_)) (by decide)
  · obtain ⟨a0, a1, a2, rfl, _⟩ := h; rfl
  · obtain ⟨a0, a1, a2, rfl, h⟩ := h
    have tk : Takes (cxOf (L2.CX P w) P w Z.K Z.mg base nm_Lsheet_with "_law_sheet_with" (defScope st_Lsheet_with) Z.f_Lsheet_with cdv A outer s H E) (fun cls d _ H => E cls d H) := takes_of rfl rfl rfl rfl
    have po : PassesOwn (model P w) (cxOf (L2.CX P w) P w Z.K Z.mg base nm_Lsheet_with "_law_sheet_with" (defScope st_Lsheet_with) Z.f_Lsheet_with cdv A outer s H E).A (cxOf (L2.CX P w) P w Z.K Z.mg base nm_Lsheet_with "_law_sheet_with" (defScope st_Lsheet_with) Z.f_Lsheet_with cdv A outer s H E).env (cxOf (L2.CX P w) P w Z.K Z.mg base nm_Lsheet_with "_law_sheet_with" (defScope st_Lsheet_with) Z.f_Lsheet_with cdv A outer s H E).xe := passes_of rfl
    refine ⟨t_Lsheet_with Z (fun cls d _ H => E cls d H), ?_, rd_Lsheet_with T h⟩
    exact (pss_cons (ps_set (i := 3) sc_Lsheet_with.nd rfl (Or.inl rfl) (pe_lst (pa_cons (pe_callB call_len' (by rfl) T.n_len (by decide +kernel) (pa_cons (pv 1) pa_nil)) pa_nil)))
      (pss_cons (ps_for po rfl (pi_list (pv 1)) (pg_un rfl (pgs_cons (pg_name (i := 4) sc_Lsheet_with.nd rfl (Or.inl rfl)) (pgs_cons (pg_name (i := 5) sc_Lsheet_with.nd rfl (Or.inl rfl)) pgs_nil))) (pss_one (ps_expr (pe_bm PySem.F.plainAttrs_list PySem.F.slot_list_extend PySem.F.type_list_extend mt_extend (pv 3) (pa_cons (pe_lst (pa_cons (pv 4) (pa_cons (pv 5) pa_nil))) pa_nil)))))
      (pss_cons (ps_for po rfl (pi_list (pv 1)) (pg_un rfl (pgs_cons (pg_name (i := 4) sc_Lsheet_with.nd rfl (Or.inl rfl)) (pgs_cons (pg_name (i := 5) sc_Lsheet_with.nd rfl (Or.inl rfl)) pgs_nil))) (pss_one (ps_expr (pe_bm PySem.F.plainAttrs_list PySem.F.slot_list_extend PySem.F.type_list_extend mt_extend (pv 3) (pa_cons (pe_callS G_Lnode (hr.mono (by decide)) rfl T.m_Lnode T.k_Lnode T.b_Lnode (fun σ => passAt tk σ) (pa_cons (pv 0) (pa_cons (pv 1) (pa_cons (pv 5) (pa_cons pe_int (pa_cons (pe_lst (pa_cons (pe_op op_addU pe_int (pe_callS G_Ltake (hr.mono (by decide)) rfl T.m_Ltake T.k_Ltake T.b_Ltake (fun σ => passAt tk σ) (pa_cons (pv 0) (pa_cons (pv 2) pa_nil)))) pa_nil)) pa_nil)))))) pa_nil)))))
      (pss_one (ps_ret (pv 3))))))

theorem sc_Lmany : FnScope nm_Lmany ["_law_node_here"] (defScope st_Lmany) := ⟨rfl, rfl, rfl, by decide +kernel, rfl, by decide +kernel, by decide +kernel⟩
theorem ok_Lmany {P : Program} {w : World} {base : Heap} {Z : Adr} (T : Top Z)  : FnOk P w Z.K Z.mg base (L2.CX P w) 1 Z.f_Lmany Z.d_Lmany ["_law_node_here"] (sp_Lmany Z) := by
  refine FnOk.mono (T.F_Lmany.okX (k := 0) sc_Lmany (fun vs H Q E h => ?_) (fun cdv A outer s H vs Q E hr h => ?_)) (by decide)
  · obtain ⟨a0, rfl, _⟩ := h; rfl
  · obtain ⟨a0, rfl, h⟩ := h
    have tk : Takes (cxOf (L2.CX P w) P w Z.K Z.mg base nm_Lmany "_law_many" (defScope st_Lmany) Z.f_Lmany cdv A outer s H E) (fun cls d _ H => E cls d H) := takes_of rfl rfl rfl rfl
    have po : PassesOwn (model P w) (cxOf (L2.CX P w) P w Z.K Z.mg base nm_Lmany "_law_many" (defScope st_Lmany) Z.f_Lmany cdv A outer s H E).A (cxOf (L2.CX P w) P w Z.K Z.mg base nm_Lmany "_law_many" (defScope st_Lmany) Z.f_Lmany cdv A outer s H E).env (cxOf (L2.CX P w) P w Z.K Z.mg base nm_Lmany "_law_many" (defScope st_Lmany) Z.f_Lmany cdv A outer s H E).xe := passes_of rfl
    refine ⟨t_Lmany Z (fun cls d _ H => E cls d H), ?_, rd_Lmany T h⟩
    exact (pss_cons (ps_set (i := 1) sc_Lmany.nd rfl (Or.inl rfl) pe_int)
      (pss_cons (ps_set (i := 2) sc_Lmany.nd rfl (Or.inl rfl) (pe_lst (pa_cons (pv 0) pa_nil)))
      (pss_cons (ps_while po (pt_cmpR (op_neU (hr.units)) (pv 2) (pe_lst pa_nil) (nomark _)) (pss_cons (ps_set (i := 3) sc_Lmany.nd rfl (Or.inl rfl) (pe_bm0 PySem.F.plainAttrs_list PySem.F.slot_list_pop PySem.F.type_list_pop mt_pop (pv 2)))
      (pss_cons (ps_set (i := 1) sc_Lmany.nd rfl (Or.inl rfl) (pe_op op_addU (pe_op op_addU (pv 1) pe_int) (pe_callB call_len' (by rfl) T.n_len (by decide +kernel) (pa_cons (pe_ix ix_seq (pv 3) pe_int (fun _ _ => rfl)) pa_nil))))
      (pss_one (ps_set (i := 2) sc_Lmany.nd rfl (Or.inl rfl) (pe_op op_addU (pv 2) (pe_callTy call_list' (by rfl) T.n_list (by decide +kernel) (pa_cons (pe_ix ix_seq (pv 3) pe_int (fun _ _ => rfl)) pa_nil))))))))
      (pss_one (ps_ret (pv 1))))))

theorem sc_Ldepth : FnScope nm_Ldepth ["_law_node_here"] (defScope st_Ldepth) := ⟨rfl, rfl, rfl, by decide +kernel, rfl, by decide +kernel, by decide +kernel⟩
theorem ok_Ldepth {P : Program} {w : World} {base : Heap} {Z : Adr} (T : Top Z)  : FnOk P w Z.K Z.mg base (L2.CX P w) 1 Z.f_Ldepth Z.d_Ldepth ["_law_node_here"] (sp_Ldepth Z) := by
  refine FnOk.mono (T.F_Ldepth.okX (k := 0) sc_Ldepth (fun vs H Q E h => ?_) (fun cdv A outer s H vs Q E hr h => ?_)) (by decide)
  · obtain ⟨a0, rfl, _⟩ := h; rfl
  · obtain ⟨a0, rfl, h⟩ := h
    have tk : Takes (cxOf (L2.CX P w) P w Z.K Z.mg base nm_Ldepth "_law_depth" (defScope st_Ldepth) Z.f_Ldepth cdv A outer s H E) (fun cls d _ H => E cls d H) := takes_of rfl rfl rfl rfl
    have po : PassesOwn (model P w) (cxOf (L2.CX P w) P w Z.K Z.mg base nm_Ldepth "_law_depth" (defScope st_Ldepth) Z.f_Ldepth cdv A outer s H E).A (cxOf (L2.CX P w) P w Z.K Z.mg base nm_Ldepth "_law_depth" (defScope st_Ldepth) Z.f_Ldepth cdv A outer s H E).env (cxOf (L2.CX P w) P w Z.K Z.mg base nm_Ldepth "_law_depth" (defScope st_Ldepth) Z.f_Ldepth cdv A outer s H E).xe := passes_of rfl
    refine ⟨t_Ldepth Z (fun cls d _ H => E cls d H), ?_, rd_Ldepth T h⟩
    exact (pss_cons (ps_set (i := 1) sc_Ldepth.nd rfl (Or.inl rfl) pe_int)
      (pss_cons (ps_set (i := 2) sc_Ldepth.nd rfl (Or.inl rfl) (pe_lst (pa_cons (pe_tup (pa_cons (pv 0) (pa_cons pe_int pa_nil))) pa_nil)))
      (pss_cons (ps_while po (pt_cmpR (op_neU (hr.units)) (pv 2) (pe_lst pa_nil) (nomark _)) (pss_cons (ps_asg (pe_bm0 PySem.F.plainAttrs_list PySem.F.slot_list_pop PySem.F.type_list_pop mt_pop (pv 2)) (pg_un rfl (pgs_cons (pg_name (i := 3) sc_Ldepth.nd rfl (Or.inl rfl)) (pgs_cons (pg_name (i := 4) sc_Ldepth.nd rfl (Or.inr rfl)) pgs_nil))))
      (pss_cons (ps_set (i := 1) sc_Ldepth.nd rfl (Or.inl rfl) (pe_callB (call_max' rfl) (by rfl) T.n_max (by decide +kernel) (pa_cons (pv 1) (pa_cons (pv 4) pa_nil))))
      (pss_one (ps_set (i := 2) sc_Ldepth.nd rfl (Or.inl rfl) (pe_op op_addU (pv 2) (pe_lc (own := [(".0", 5), ("_law_part", 6)]) (g := (gName 6)) (tt := tYes) rfl sc_Ldepth.nd (pi_tup (pe_ix ix_seq (pv 3) pe_int (fun _ _ => rfl))) (blkOk_by (own := [(".0", 5), ("_law_part", 6)]) (N := nm_Ldepth) (sc := defScope st_Ldepth) (by decide +kernel)) (fun _ _ _ _ _ => (pg_name (i := 6) sc_Ldepth.nd rfl (Or.inl rfl))) (fun _ _ _ _ _ => pts_nil) (fun _ _ _ _ _ => (pe_tup (pa_cons (pv 6) (pa_cons (pe_op op_addU (pv 4) pe_int) pa_nil)))))))))))
      (pss_one (ps_ret (pv 1))))))

theorem sc_Ldepths : FnScope nm_Ldepths ["_law_some"] (defScope st_Ldepths) := ⟨rfl, rfl, rfl, by decide +kernel, rfl, by decide +kernel, by decide +kernel⟩
theorem ok_Ldepths {P : Program} {w : World} {base : Heap} {Z : Adr} (T : Top Z) (G_Lmany : FnOk P w Z.K Z.mg base (L2.CX P w) 1 Z.f_Lmany Z.d_Lmany ["_law_node_here"] (sp_Lmany Z)) : FnOk P w Z.K Z.mg base (L2.CX P w) 2 Z.f_Ldepths Z.d_Ldepths ["_law_some"] (sp_Ldepths Z) := by
  refine FnOk.mono (T.F_Ldepths.okX (k := 1) sc_Ldepths (fun vs H Q E h => ?_) (fun cdv A outer s H vs Q E hr h => ?_)) (by decide)
  · obtain ⟨a0, rfl, _⟩ := h; rfl
  · obtain ⟨a0, rfl, h⟩ := h
    have tk : Takes (cxOf (L2.CX P w) P w Z.K Z.mg base nm_Ldepths "_law_depths" (defScope st_Ldepths) Z.f_Ldepths cdv A outer s H E) (fun cls d _ H => E cls d H) := takes_of rfl rfl rfl rfl
    have po : PassesOwn (model P w) (cxOf (L2.CX P w) P w Z.K Z.mg base nm_Ldepths "_law_depths" (defScope st_Ldepths) Z.f_Ldepths cdv A outer s H E).A (cxOf (L2.CX P w) P w Z.K Z.mg base nm_Ldepths "_law_depths" (defScope st_Ldepths) Z.f_Ldepths cdv A outer s H E).env (cxOf (L2.CX P w) P w Z.K Z.mg base nm_Ldepths "_law_depths" (defScope st_Ldepths) Z.f_Ldepths cdv A outer s H E).xe := passes_of rfl
    refine ⟨t_Ldepths Z (fun cls d _ H => E cls d H), ?_, rd_Ldepths T h⟩
    exact (pss_cons (ps_set (i := 1) sc_Ldepths.nd rfl (Or.inl rfl) (pe_lst pa_nil))
      (pss_cons (ps_set (i := 2) sc_Ldepths.nd rfl (Or.inl rfl) (pe_lst pa_nil))
      (pss_cons (ps_set (i := 3) sc_Ldepths.nd rfl (Or.inl rfl) (pe_un un_neg pe_int))
      (pss_cons (ps_for po rfl (pi_list (pv 0)) (pg_name (i := 4) sc_Ldepths.nd rfl (Or.inl rfl)) (pss_cons (ps_while po (PW.pt (pw_and (pt_cmpR (op_neU (hr.units)) (pv 2) (pe_lst pa_nil) (nomark _)) (pw_and1 (pt_cmpR op_ge (pe_ix ix_seq (pv 4) pe_int (fun _ _ => rfl)) (pe_ix ix_seq (pv 2) (pe_un un_neg pe_int) (fun _ _ => rfl)) (nomark _))))) (pss_one (ps_expr (pe_bm0 PySem.F.plainAttrs_list PySem.F.slot_list_pop PySem.F.type_list_pop mt_pop (pv 2)))))
      (C8.pss_cut (ps_if (pt_cmpR (op_eqU (hr.units)) (pv 2) (pe_lst pa_nil) (nomark _)) (pss_one (ps_set (i := 3) sc_Ldepths.nd rfl (Or.inl rfl) (pe_op op_addU (pv 3) pe_int))) pss_nil)
      (pss_cons (ps_expr (pe_bm PySem.F.plainAttrs_list PySem.F.slot_list_append PySem.F.type_list_append mt_append (pv 2) (pa_cons (pe_op op_addU (pe_ix ix_seq (pv 4) pe_int (fun _ _ => rfl)) (pe_callS G_Lmany (hr.mono (by decide)) rfl T.m_Lmany T.k_Lmany T.b_Lmany (fun σ => passAt tk σ) (pa_cons (pv 4) pa_nil))) pa_nil)))
      (pss_one (ps_expr (pe_bm PySem.F.plainAttrs_list PySem.F.slot_list_append PySem.F.type_list_append mt_append (pv 1) (pa_cons (pe_tup (pa_cons (pe_callB call_len' (by rfl) T.n_len (by decide +kernel) (pa_cons (pv 2) pa_nil)) (pa_cons (pv 3) pa_nil))) pa_nil))))))))
      (pss_one (ps_ret (pv 1)))))))

theorem sc_Lin_function : FnScope nm_Lin_function ["_law_depths_here", "_law_function"] (defScope st_Lin_function) := ⟨rfl, rfl, rfl, by decide +kernel, rfl, by decide +kernel, by decide +kernel⟩
theorem ok_Lin_function {P : Program} {w : World} {base : Heap} {Z : Adr} (T : Top Z)  : FnOk P w Z.K Z.mg base (L2.CX P w) 1 Z.f_Lin_function Z.d_Lin_function ["_law_depths_here", "_law_function"] (sp_Lin_function Z) := by
  refine FnOk.mono (T.F_Lin_function.okX (k := 0) sc_Lin_function (fun vs H Q E h => ?_) (fun cdv A outer s H vs Q E hr h => ?_)) (by decide)
  · obtain ⟨a0, a1, rfl, _⟩ := h; rfl
  · obtain ⟨a0, a1, rfl, h⟩ := h
    have tk : Takes (cxOf (L2.CX P w) P w Z.K Z.mg base nm_Lin_function "_law_in_function" (defScope st_Lin_function) Z.f_Lin_function cdv A outer s H E) (fun cls d _ H => E cls d H) := takes_of rfl rfl rfl rfl
    have po : PassesOwn (model P w) (cxOf (L2.CX P w) P w Z.K Z.mg base nm_Lin_function "_law_in_function" (defScope st_Lin_function) Z.f_Lin_function cdv A outer s H E).A (cxOf (L2.CX P w) P w Z.K Z.mg base nm_Lin_function "_law_in_function" (defScope st_Lin_function) Z.f_Lin_function cdv A outer s H E).env (cxOf (L2.CX P w) P w Z.K Z.mg base nm_Lin_function "_law_in_function" (defScope st_Lin_function) Z.f_Lin_function cdv A outer s H E).xe := passes_of rfl
    refine ⟨t_Lin_function Z (fun cls d _ H => E cls d H), ?_, rd_Lin_function T h⟩
    exact (pss_one (ps_ret (pe_lc (own := [(".0", 2), ("_law_k", 3)]) (g := (gName 3)) (tt := (tTest (tOp (rEqU Z.K) (tOp (rIx Z.K) (tOp (rIx Z.K) (tVar 0) (tVar 3)) (tC (.int 1))) (tVar 1)))) rfl sc_Lin_function.nd (pi_range1 rfl T.n_range (pa_cons (pe_callB call_len' (by rfl) T.n_len (by decide +kernel) (pa_cons (pv 0) pa_nil)) pa_nil)) (blkOk_by (own := [(".0", 2), ("_law_k", 3)]) (N := nm_Lin_function) (sc := defScope st_Lin_function) (by decide +kernel)) (fun _ _ _ _ _ => (pg_name (i := 3) sc_Lin_function.nd rfl (Or.inl rfl))) (fun _ _ _ _ _ => (pts_one (pt_cmpR (op_eqU (hr.units)) (pe_ix ix_seq (pe_ix ix_seq (pv 0) (pv 3) (fun _ _ => rfl)) pe_int (fun _ _ => rfl)) (pv 1) (nomark _)))) (fun _ _ _ _ _ => (pv 3)))))

theorem sc_Lheads_of : FnScope nm_Lheads_of ["_law_sheet_here"] (defScope st_Lheads_of) := ⟨rfl, rfl, rfl, by decide +kernel, rfl, by decide +kernel, by decide +kernel⟩
theorem ok_Lheads_of {P : Program} {w : World} {base : Heap} {Z : Adr} (T : Top Z)  : FnOk P w Z.K Z.mg base (L2.CX P w) 1 Z.f_Lheads_of Z.d_Lheads_of ["_law_sheet_here"] (sp_Lheads_of Z) := by
  refine FnOk.mono (T.F_Lheads_of.okX (k := 0) sc_Lheads_of (fun vs H Q E h => ?_) (fun cdv A outer s H vs Q E hr h => ?_)) (by decide)
  · obtain ⟨a0, rfl, _⟩ := h; rfl
  · obtain ⟨a0, rfl, h⟩ := h
    have tk : Takes (cxOf (L2.CX P w) P w Z.K Z.mg base nm_Lheads_of "_law_heads_of" (defScope st_Lheads_of) Z.f_Lheads_of cdv A outer s H E) (fun cls d _ H => E cls d H) := takes_of rfl rfl rfl rfl
    have po : PassesOwn (model P w) (cxOf (L2.CX P w) P w Z.K Z.mg base nm_Lheads_of "_law_heads_of" (defScope st_Lheads_of) Z.f_Lheads_of cdv A outer s H E).A (cxOf (L2.CX P w) P w Z.K Z.mg base nm_Lheads_of "_law_heads_of" (defScope st_Lheads_of) Z.f_Lheads_of cdv A outer s H E).env (cxOf (L2.CX P w) P w Z.K Z.mg base nm_Lheads_of "_law_heads_of" (defScope st_Lheads_of) Z.f_Lheads_of cdv A outer s H E).xe := passes_of rfl
    refine ⟨t_Lheads_of Z (fun cls d _ H => E cls d H), ?_, rd_Lheads_of T h⟩
    exact (pss_one (ps_ret (pe_lc (own := [(".0", 1), ("_law_k", 2)]) (g := (gName 2)) (tt := tYes) rfl sc_Lheads_of.nd (pi_range1 rfl T.n_range (pa_cons (pe_ix ix_seq (pv 0) pe_int (fun _ _ => rfl)) pa_nil)) (blkOk_by (own := [(".0", 1), ("_law_k", 2)]) (N := nm_Lheads_of) (sc := defScope st_Lheads_of) (by decide +kernel)) (fun _ _ _ _ _ => (pg_name (i := 2) sc_Lheads_of.nd rfl (Or.inl rfl))) (fun _ _ _ _ _ => pts_nil) (fun _ _ _ _ _ => (pe_tup (pa_cons (pe_ix ix_seq (pv 0) (pe_op op_addU pe_int (pe_op op_ml pe_int (pv 2))) (fun _ _ => rfl)) (pa_cons (pe_ix ix_seq (pv 0) (pe_op op_addU pe_int (pe_op op_ml pe_int (pv 2))) (fun _ _ => rfl)) pa_nil)))))))

theorem sc_Lput : FnScope nm_Lput ["_law_sheet_here", "_law_node_here", "_law_numbers"] (defScope st_Lput) := ⟨rfl, rfl, rfl, by decide +kernel, rfl, by decide +kernel, by decide +kernel⟩
theorem ok_Lput {P : Program} {w : World} {base : Heap} {Z : Adr} (T : Top Z) (G_Lmany : FnOk P w Z.K Z.mg base (L2.CX P w) 1 Z.f_Lmany Z.d_Lmany ["_law_node_here"] (sp_Lmany Z)) : FnOk P w Z.K Z.mg base (L2.CX P w) 2 Z.f_Lput Z.d_Lput ["_law_sheet_here", "_law_node_here", "_law_numbers"] (sp_Lput Z) := by
  refine FnOk.mono (T.F_Lput.okX (k := 1) sc_Lput (fun vs H Q E h => ?_) (fun cdv A outer s H vs Q E hr h => ?_)) (by decide)
  · obtain ⟨a0, a1, a2, rfl, _⟩ := h; rfl
  · obtain ⟨a0, a1, a2, rfl, h⟩ := h
    have tk : Takes (cxOf (L2.CX P w) P w Z.K Z.mg base nm_Lput "_law_put" (defScope st_Lput) Z.f_Lput cdv A outer s H E) (fun cls d _ H => E cls d H) := takes_of rfl rfl rfl rfl
    have po : PassesOwn (model P w) (cxOf (L2.CX P w) P w Z.K Z.mg base nm_Lput "_law_put" (defScope st_Lput) Z.f_Lput cdv A outer s H E).A (cxOf (L2.CX P w) P w Z.K Z.mg base nm_Lput "_law_put" (defScope st_Lput) Z.f_Lput cdv A outer s H E).env (cxOf (L2.CX P w) P w Z.K Z.mg base nm_Lput "_law_put" (defScope st_Lput) Z.f_Lput cdv A outer s H E).xe := passes_of rfl
    refine ⟨t_Lput Z (fun cls d _ H => E cls d H), ?_, rd_Lput T h⟩
    exact (pss_cons (ps_set (i := 3) sc_Lput.nd rfl (Or.inl rfl) (pe_op op_addU (pe_ix ix_seq (pv 1) pe_int (fun _ _ => rfl)) (pe_callS G_Lmany (hr.mono (by decide)) rfl T.m_Lmany T.k_Lmany T.b_Lmany (fun σ => passAt tk σ) (pa_cons (pv 1) pa_nil))))
      (pss_one (ps_ret (pe_op op_addU (pe_op op_addU (pe_slice sl_U (pv 0) po_none (po_some (pe_ix ix_seq (pv 1) pe_int (fun _ _ => rfl)))) (pv 2)) (pe_slice sl_U (pv 0) (po_some (pv 3)) po_none)))))

theorem sc_Lall_bare : FnScope nm_Lall_bare ["_law_some"] (defScope st_Lall_bare) := ⟨rfl, rfl, rfl, by decide +kernel, rfl, by decide +kernel, by decide +kernel⟩
theorem ok_Lall_bare {P : Program} {w : World} {base : Heap} {Z : Adr} (T : Top Z)  : FnOk P w Z.K Z.mg base (L2.CX P w) 1 Z.f_Lall_bare Z.d_Lall_bare ["_law_some"] (sp_Lall_bare Z) := by
  refine FnOk.mono (T.F_Lall_bare.okX (k := 0) sc_Lall_bare (fun vs H Q E h => ?_) (fun cdv A outer s H vs Q E hr h => ?_)) (by decide)
  · obtain ⟨a0, rfl, _⟩ := h; rfl
  · obtain ⟨a0, rfl, h⟩ := h
    have tk : Takes (cxOf (L2.CX P w) P w Z.K Z.mg base nm_Lall_bare "_law_all_bare" (defScope st_Lall_bare) Z.f_Lall_bare cdv A outer s H E) (fun cls d _ H => E cls d H) := takes_of rfl rfl rfl rfl
    have po : PassesOwn (model P w) (cxOf (L2.CX P w) P w Z.K Z.mg base nm_Lall_bare "_law_all_bare" (defScope st_Lall_bare) Z.f_Lall_bare cdv A outer s H E).A (cxOf (L2.CX P w) P w Z.K Z.mg base nm_Lall_bare "_law_all_bare" (defScope st_Lall_bare) Z.f_Lall_bare cdv A outer s H E).env (cxOf (L2.CX P w) P w Z.K Z.mg base nm_Lall_bare "_law_all_bare" (defScope st_Lall_bare) Z.f_Lall_bare cdv A outer s H E).xe := passes_of rfl
    refine ⟨t_Lall_bare Z (fun cls d _ H => E cls d H), ?_, rd_Lall_bare T h⟩
    exact (pss_one (ps_ret (pe_lc (own := [(".0", 1), ("_law_one", 2)]) (g := (gName 2)) (tt := tYes) rfl sc_Lall_bare.nd (pi_list (pv 0)) (blkOk_by (own := [(".0", 1), ("_law_one", 2)]) (N := nm_Lall_bare) (sc := defScope st_Lall_bare) (by decide +kernel)) (fun _ _ _ _ _ => (pg_name (i := 2) sc_Lall_bare.nd rfl (Or.inl rfl))) (fun _ _ _ _ _ => pts_nil) (fun _ _ _ _ _ => (pe_tup (pa_cons (pe_ix ix_seq (pv 2) pe_int (fun _ _ => rfl)) (pa_cons (pe_ix ix_seq (pv 2) pe_int (fun _ _ => rfl)) pa_nil)))))))

theorem sc_Lexchanged : FnScope nm_Lexchanged ["_law_sheet_here", "_law_some", "_law_at", "_law_numbers", "_law_deep"] (defScope st_Lexchanged) := ⟨rfl, rfl, rfl, by decide +kernel, rfl, by decide +kernel, by decide +kernel⟩
theorem ok_Lexchanged {P : Program} {w : World} {base : Heap} {Z : Adr} (T : Top Z) (G_Ldepths : FnOk P w Z.K Z.mg base (L2.CX P w) 2 Z.f_Ldepths Z.d_Ldepths ["_law_some"] (sp_Ldepths Z)) (G_Lput : FnOk P w Z.K Z.mg base (L2.CX P w) 2 Z.f_Lput Z.d_Lput ["_law_sheet_here", "_law_node_here", "_law_numbers"] (sp_Lput Z)) (G_wrong : FnOk P w Z.K Z.mg base (L2.CX P w) 19 Z.f_wrong Z.d_wrong ["numbers"] (sp_wrong Z)) (G_Lmany : FnOk P w Z.K Z.mg base (L2.CX P w) 1 Z.f_Lmany Z.d_Lmany ["_law_node_here"] (sp_Lmany Z)) (G_nodes : FnOk P w Z.K Z.mg base (L2.CX P w) 19 Z.f_nodes Z.d_nodes ["sheet"] (sp_nodes Z)) (G_Lall_bare : FnOk P w Z.K Z.mg base (L2.CX P w) 1 Z.f_Lall_bare Z.d_Lall_bare ["_law_some"] (sp_Lall_bare Z)) : FnOk P w Z.K Z.mg base (L2.CX P w) 20 Z.f_Lexchanged Z.d_Lexchanged ["_law_sheet_here", "_law_some", "_law_at", "_law_numbers", "_law_deep"] (sp_Lexchanged Z) := by
  refine FnOk.mono (T.F_Lexchanged.okX (k := 19) sc_Lexchanged (fun vs H Q E h => ?_) (fun cdv A outer s H vs Q E hr h => ?_)) (by decide)
  · obtain ⟨a0, a1, a2, a3, a4, rfl, _⟩ := h; rfl
  · obtain ⟨a0, a1, a2, a3, a4, rfl, h⟩ := h
    have tk : Takes (cxOf (L2.CX P w) P w Z.K Z.mg base nm_Lexchanged "_law_exchanged" (defScope st_Lexchanged) Z.f_Lexchanged cdv A outer s H E) (fun cls d _ H => E cls d H) := takes_of rfl rfl rfl rfl
    have po : PassesOwn (model P w) (cxOf (L2.CX P w) P w Z.K Z.mg base nm_Lexchanged "_law_exchanged" (defScope st_Lexchanged) Z.f_Lexchanged cdv A outer s H E).A (cxOf (L2.CX P w) P w Z.K Z.mg base nm_Lexchanged "_law_exchanged" (defScope st_Lexchanged) Z.f_Lexchanged cdv A outer s H E).env (cxOf (L2.CX P w) P w Z.K Z.mg base nm_Lexchanged "_law_exchanged" (defScope st_Lexchanged) Z.f_Lexchanged cdv A outer s H E).xe := passes_of rfl
    refine ⟨t_Lexchanged Z (fun cls d _ H => E cls d H), ?_, rd_Lexchanged T h⟩
    exact (pss_cons (ps_set (i := 5) sc_Lexchanged.nd rfl (Or.inr rfl) (pe_ix ix_seq (pv 1) (pv 2) (fun _ _ => rfl)))
      (pss_cons (ps_set (i := 6) sc_Lexchanged.nd rfl (Or.inl rfl) (pe_ix ix_seq (pe_ix ix_seq (pe_callS G_Ldepths (hr.mono (by decide)) rfl T.m_Ldepths T.k_Ldepths T.b_Ldepths (fun σ => passAt tk σ) (pa_cons (pv 1) pa_nil)) (pv 2) (fun _ _ => rfl)) pe_int (fun _ _ => rfl)))
      (pss_cons (ps_set (i := 7) sc_Lexchanged.nd rfl (Or.inl rfl) (pe_callS G_Lput (hr.mono (by decide)) rfl T.m_Lput T.k_Lput T.b_Lput (fun σ => passAt tk σ) (pa_cons (pv 0) (pa_cons (pv 5) (pa_cons (pv 3) pa_nil)))))
      (pss_cons (ps_set (i := 8) sc_Lexchanged.nd rfl (Or.inl rfl) (pe_callS G_wrong (hr.mono (by decide)) rfl T.m_wrong T.k_wrong T.b_wrong (fun σ => passAt tk σ) (pa_cons (pv 7) pa_nil)))
      (pss_cons (ps_if (pt_cmpR op_gt (pe_op op_addU (pe_op op_sub (pv 6) pe_int) (pv 4)) pe_int (nomark _)) (pss_one (ps_ret (pe_and (pe_callB call_isi' (by rfl) T.n_isinstance (by decide +kernel) (pa_cons (pv 8) (pa_cons (pe_bltn (by rfl) T.n_tuple (by decide +kernel) rfl) pa_nil))) (pe_one (pe_cmpR (op_eqU (hr.units)) (pe_ix ix_seq (pv 8) pe_int (fun _ _ => rfl)) pe_str (nomark _)))))) pss_nil)
      (pss_cons (ps_if (pt_cmpR op_notU (pv 8) pe_non (nomark _)) (pss_one (ps_ret pe_bl)) pss_nil)
      (pss_cons (ps_set (i := 9) sc_Lexchanged.nd rfl (Or.inr rfl) (pe_op op_addU (pe_ix ix_seq (pv 5) pe_int (fun _ _ => rfl)) (pe_callS G_Lmany (hr.mono (by decide)) rfl T.m_Lmany T.k_Lmany T.b_Lmany (fun σ => passAt tk σ) (pa_cons (pv 5) pa_nil))))
      (pss_cons (ps_set (i := 10) sc_Lexchanged.nd rfl (Or.inl rfl) (pe_callB call_len' (by rfl) T.n_len (by decide +kernel) (pa_cons (pe_lc (own := [(".0", 15), ("_law_one", 16)]) (g := (gName 16)) (tt := (tTest (tChain (rI0 fun i j => .bl (decide (i ≤ j))) (rI0 fun i j => .bl (decide (i < j))) (tOp (rIx Z.K) (tVar 5) (tC (.int 1))) (tOp (rIx Z.K) (tVar 16) (tC (.int 1))) (tVar 9)))) rfl sc_Lexchanged.nd (pi_list (pv 1)) (blkOk_by (own := [(".0", 15), ("_law_one", 16)]) (N := nm_Lexchanged) (sc := defScope st_Lexchanged) (by decide +kernel)) (fun _ _ _ _ _ => (pg_name (i := 16) sc_Lexchanged.nd rfl (Or.inl rfl))) (fun _ _ _ _ _ => (pts_one (pt_chain op_le op_lt (pe_ix ix_seq (pv 5) pe_int (fun _ _ => rfl)) (pe_ix ix_seq (pv 16) pe_int (fun _ _ => rfl)) (pv 9)))) (fun _ _ _ _ _ => (pv 16))) pa_nil)))
      (pss_cons (ps_set (i := 11) sc_Lexchanged.nd rfl (Or.inl rfl) (pe_callS G_nodes (hr.mono (by decide)) rfl T.m_nodes T.k_nodes T.b_nodes (fun σ => passAt tk σ) (pa_cons (pv 7) pa_nil)))
      (pss_cons (ps_set (i := 12) sc_Lexchanged.nd rfl (Or.inl rfl) (pe_op op_sub (pe_op op_sub (pe_callB call_len' (by rfl) T.n_len (by decide +kernel) (pa_cons (pv 1) pa_nil)) (pv 2)) (pv 10)))
      (pss_cons (ps_if (pt_cmpR (op_neU (hr.units)) (pe_callS G_Lall_bare (hr.mono (by decide)) rfl T.m_Lall_bare T.k_Lall_bare T.b_Lall_bare (fun σ => passAt tk σ) (pa_cons (pe_slice sl_U (pv 11) po_none (po_some (pv 2))) pa_nil)) (pe_callS G_Lall_bare (hr.mono (by decide)) rfl T.m_Lall_bare T.k_Lall_bare T.b_Lall_bare (fun σ => passAt tk σ) (pa_cons (pe_slice sl_U (pv 1) po_none (po_some (pv 2))) pa_nil)) (nomark _)) (pss_one (ps_ret pe_bl)) pss_nil)
      (pss_cons (ps_set (i := 13) sc_Lexchanged.nd rfl (Or.inl rfl) (pe_slice sl_U (pv 11) (po_some (pe_op op_sub (pe_callB call_len' (by rfl) T.n_len (by decide +kernel) (pa_cons (pv 11) pa_nil)) (pv 12))) po_none))
      (pss_cons (ps_if (pt_cmpR (op_neU (hr.units)) (pe_callS G_Lall_bare (hr.mono (by decide)) rfl T.m_Lall_bare T.k_Lall_bare T.b_Lall_bare (fun σ => passAt tk σ) (pa_cons (pv 13) pa_nil)) (pe_callS G_Lall_bare (hr.mono (by decide)) rfl T.m_Lall_bare T.k_Lall_bare T.b_Lall_bare (fun σ => passAt tk σ) (pa_cons (pe_slice sl_U (pv 1) (po_some (pe_op op_addU (pv 2) (pv 10))) po_none) pa_nil)) (nomark _)) (pss_one (ps_ret pe_bl)) pss_nil)
      (pss_cons (ps_set (i := 14) sc_Lexchanged.nd rfl (Or.inl rfl) (pe_slice sl_U (pv 0) (po_some (pe_ix ix_seq (pv 5) pe_int (fun _ _ => rfl))) (po_some (pe_op op_addU (pe_ix ix_seq (pv 5) pe_int (fun _ _ => rfl)) (pe_callS G_Lmany (hr.mono (by decide)) rfl T.m_Lmany T.k_Lmany T.b_Lmany (fun σ => passAt tk σ) (pa_cons (pv 5) pa_nil))))))
      (pss_one (ps_ret (pe_cmpR (op_eqU (hr.units)) (pe_callS G_Lput (hr.mono (by decide)) rfl T.m_Lput T.k_Lput T.b_Lput (fun σ => passAt tk σ) (pa_cons (pv 7) (pa_cons (pe_ix ix_seq (pv 11) (pv 2) (fun _ _ => rfl)) (pa_cons (pv 14) pa_nil)))) (pv 0) (nomark _))))))))))))))))))

theorem sc_law : FnScope nm_law ["_law_script"] (defScope st_law) := ⟨rfl, rfl, rfl, by decide +kernel, rfl, by decide +kernel, by decide +kernel⟩
theorem ok_law {P : Program} {w : World} {base : Heap} {Z : Adr} (T : Top Z) (G_Lsheet : FnOk P w Z.K Z.mg base (L2.CX P w) 17 Z.f_Lsheet Z.d_Lsheet ["_law_state", "_law_most"] (sp_Lsheet Z)) (G_Lheads_of : FnOk P w Z.K Z.mg base (L2.CX P w) 1 Z.f_Lheads_of Z.d_Lheads_of ["_law_sheet_here"] (sp_Lheads_of Z)) (G_Lsheet_with : FnOk P w Z.K Z.mg base (L2.CX P w) 17 Z.f_Lsheet_with Z.d_Lsheet_with ["_law_state", "_law_heads_here", "_law_most"] (sp_Lsheet_with Z)) (G_nodes : FnOk P w Z.K Z.mg base (L2.CX P w) 19 Z.f_nodes Z.d_nodes ["sheet"] (sp_nodes Z)) (G_Ldepths : FnOk P w Z.K Z.mg base (L2.CX P w) 2 Z.f_Ldepths Z.d_Ldepths ["_law_some"] (sp_Ldepths Z)) (G_Ltake : FnOk P w Z.K Z.mg base (L2.CX P w) 2 Z.f_Ltake Z.d_Ltake ["_law_state", "_law_many_here"] (sp_Ltake Z)) (G_Lin_function : FnOk P w Z.K Z.mg base (L2.CX P w) 1 Z.f_Lin_function Z.d_Lin_function ["_law_depths_here", "_law_function"] (sp_Lin_function Z)) (G_Lmany : FnOk P w Z.K Z.mg base (L2.CX P w) 1 Z.f_Lmany Z.d_Lmany ["_law_node_here"] (sp_Lmany Z)) (G_Lexchanged : FnOk P w Z.K Z.mg base (L2.CX P w) 20 Z.f_Lexchanged Z.d_Lexchanged ["_law_sheet_here", "_law_some", "_law_at", "_law_numbers", "_law_deep"] (sp_Lexchanged Z)) (G_Ldepth : FnOk P w Z.K Z.mg base (L2.CX P w) 1 Z.f_Ldepth Z.d_Ldepth ["_law_node_here"] (sp_Ldepth Z)) (G_wrong : FnOk P w Z.K Z.mg base (L2.CX P w) 19 Z.f_wrong Z.d_wrong ["numbers"] (sp_wrong Z)) : FnOk P w Z.K Z.mg base (L2.CX P w) 21 Z.f_law Z.d_law ["_law_script"] (sp_law Z) := by
  refine FnOk.mono (T.F_law.okX (k := 20) sc_law (fun vs H Q E h => ?_) (fun cdv A outer s H vs Q E hr h => ?_)) (by decide)
  · obtain ⟨a0, rfl, _⟩ := h; rfl
  · obtain ⟨a0, rfl, h⟩ := h
    have tk : Takes (cxOf (L2.CX P w) P w Z.K Z.mg base nm_law "law" (defScope st_law) Z.f_law cdv A outer s H E) (fun cls d _ H => E cls d H) := takes_of rfl rfl rfl rfl
    have po : PassesOwn (model P w) (cxOf (L2.CX P w) P w Z.K Z.mg base nm_law "law" (defScope st_law) Z.f_law cdv A outer s H E).A (cxOf (L2.CX P w) P w Z.K Z.mg base nm_law "law" (defScope st_law) Z.f_law cdv A outer s H E).env (cxOf (L2.CX P w) P w Z.K Z.mg base nm_law "law" (defScope st_law) Z.f_law cdv A outer s H E).xe := passes_of rfl
    refine ⟨t_law Z (fun cls d _ H => E cls d H), ?_, rd_law T h⟩
    exact (pss_cons (ps_set (i := 1) sc_law.nd rfl (Or.inl rfl) (pe_lst (pa_cons (pv 0) (pa_cons pe_int (pa_cons pe_int pa_nil)))))
      (pss_cons (ps_set (i := 2) sc_law.nd rfl (Or.inl rfl) (pe_callS G_Lsheet (hr.mono (by decide)) rfl T.m_Lsheet T.k_Lsheet T.b_Lsheet (fun σ => passAt tk σ) (pa_cons (pv 1) (pa_cons pe_int pa_nil))))
      (pss_cons (ps_set (i := 3) sc_law.nd rfl (Or.inl rfl) (pe_callS G_Lheads_of (hr.mono (by decide)) rfl T.m_Lheads_of T.k_Lheads_of T.b_Lheads_of (fun σ => passAt tk σ) (pa_cons (pv 2) pa_nil)))
      (pss_cons (ps_set (i := 4) sc_law.nd rfl (Or.inl rfl) (pe_callS G_Lsheet_with (hr.mono (by decide)) rfl T.m_Lsheet_with T.k_Lsheet_with T.b_Lsheet_with (fun σ => passAt tk σ) (pa_cons (pv 1) (pa_cons (pv 3) (pa_cons pe_int pa_nil)))))
      (pss_cons (ps_set (i := 5) sc_law.nd rfl (Or.inl rfl) (pe_callS G_nodes (hr.mono (by decide)) rfl T.m_nodes T.k_nodes T.b_nodes (fun σ => passAt tk σ) (pa_cons (pv 2) pa_nil)))
      (pss_cons (ps_set (i := 6) sc_law.nd rfl (Or.inl rfl) (pe_callS G_nodes (hr.mono (by decide)) rfl T.m_nodes T.k_nodes T.b_nodes (fun σ => passAt tk σ) (pa_cons (pv 4) pa_nil)))
      (pss_cons (ps_set (i := 7) sc_law.nd rfl (Or.inl rfl) (pe_callS G_Ldepths (hr.mono (by decide)) rfl T.m_Ldepths T.k_Ldepths T.b_Ldepths (fun σ => passAt tk σ) (pa_cons (pv 5) pa_nil)))
      (pss_cons (ps_set (i := 8) sc_law.nd rfl (Or.inl rfl) (pe_callS G_Ldepths (hr.mono (by decide)) rfl T.m_Ldepths T.k_Ldepths T.b_Ldepths (fun σ => passAt tk σ) (pa_cons (pv 6) pa_nil)))
      (pss_cons (ps_for po rfl (pi_range1 rfl T.n_range (pa_cons pe_int pa_nil)) (pg_name (i := 9) sc_law.nd rfl (Or.inl rfl)) (pss_cons (ps_set (i := 10) sc_law.nd rfl (Or.inl rfl) (pe_callS G_Ltake (hr.mono (by decide)) rfl T.m_Ltake T.k_Ltake T.b_Ltake (fun σ => passAt tk σ) (pa_cons (pv 1) (pa_cons (pe_callB call_len' (by rfl) T.n_len (by decide +kernel) (pa_cons (pv 5) pa_nil)) pa_nil))))
      (pss_cons (ps_set (i := 11) sc_law.nd rfl (Or.inl rfl) (pe_callS G_Lin_function (hr.mono (by decide)) rfl T.m_Lin_function T.k_Lin_function T.b_Lin_function (fun σ => passAt tk σ) (pa_cons (pv 8) (pa_cons (pe_ix ix_seq (pe_ix ix_seq (pv 7) (pv 10) (fun _ _ => rfl)) pe_int (fun _ _ => rfl)) pa_nil))))
      (pss_cons (ps_set (i := 12) sc_law.nd rfl (Or.inl rfl) (pe_ix ix_seq (pv 6) (pe_ix ix_seq (pv 11) (pe_callS G_Ltake (hr.mono (by decide)) rfl T.m_Ltake T.k_Ltake T.b_Ltake (fun σ => passAt tk σ) (pa_cons (pv 1) (pa_cons (pe_callB call_len' (by rfl) T.n_len (by decide +kernel) (pa_cons (pv 11) pa_nil)) pa_nil))) (fun _ _ => rfl)) (fun _ _ => rfl)))
      (pss_cons (ps_set (i := 13) sc_law.nd rfl (Or.inl rfl) (pe_slice sl_U (pv 4) (po_some (pe_ix ix_seq (pv 12) pe_int (fun _ _ => rfl))) (po_some (pe_op op_addU (pe_ix ix_seq (pv 12) pe_int (fun _ _ => rfl)) (pe_callS G_Lmany (hr.mono (by decide)) rfl T.m_Lmany T.k_Lmany T.b_Lmany (fun σ => passAt tk σ) (pa_cons (pv 12) pa_nil))))))
      (pss_cons (ps_if (pt_not (pt_val (pe_callS G_Lexchanged (hr.mono (by decide)) rfl T.m_Lexchanged T.k_Lexchanged T.b_Lexchanged (fun σ => passAt tk σ) (pa_cons (pv 2) (pa_cons (pv 5) (pa_cons (pv 10) (pa_cons (pv 13) (pa_cons (pe_callS G_Ldepth (hr.mono (by decide)) rfl T.m_Ldepth T.k_Ldepth T.b_Ldepth (fun σ => passAt tk σ) (pa_cons (pv 12) pa_nil)) pa_nil)))))))) (pss_one (ps_ret pe_bl)) pss_nil)
      (pss_cons (ps_set (i := 14) sc_law.nd rfl (Or.inl rfl) (pe_slice sl_U (pv 2) (po_some (pe_ix ix_seq (pe_ix ix_seq (pv 5) (pv 10) (fun _ _ => rfl)) pe_int (fun _ _ => rfl))) (po_some (pe_op op_addU (pe_ix ix_seq (pe_ix ix_seq (pv 5) (pv 10) (fun _ _ => rfl)) pe_int (fun _ _ => rfl)) (pe_callS G_Lmany (hr.mono (by decide)) rfl T.m_Lmany T.k_Lmany T.b_Lmany (fun σ => passAt tk σ) (pa_cons (pe_ix ix_seq (pv 5) (pv 10) (fun _ _ => rfl)) pa_nil))))))
      (pss_cons (ps_set (i := 15) sc_law.nd rfl (Or.inl rfl) (pe_op op_addU pe_int (pe_callS G_Ldepth (hr.mono (by decide)) rfl T.m_Ldepth T.k_Ldepth T.b_Ldepth (fun σ => passAt tk σ) (pa_cons (pe_ix ix_seq (pv 5) (pv 10) (fun _ _ => rfl)) pa_nil))))
      (pss_one (ps_if (pt_not (pt_val (pe_callS G_Lexchanged (hr.mono (by decide)) rfl T.m_Lexchanged T.k_Lexchanged T.b_Lexchanged (fun σ => passAt tk σ) (pa_cons (pv 2) (pa_cons (pv 5) (pa_cons (pv 10) (pa_cons (pe_op op_addU (pe_lst (pa_cons pe_int (pa_cons pe_int pa_nil))) (pv 14)) (pa_cons (pv 15) pa_nil)))))))) (pss_one (ps_ret pe_bl)) pss_nil))))))))))
      (pss_one (ps_ret (pe_cmpR op_isU (pe_callS G_wrong (hr.mono (by decide)) rfl T.m_wrong T.k_wrong T.b_wrong (fun σ => passAt tk σ) (pa_cons (pv 2) pa_nil)) pe_non (nomark _)))))))))))))

theorem grp_node_in {P : Program} {w : World} {base : Heap} {Z : Adr} (T : Top Z) (G_NoSheet_init : FnOk P w Z.K Z.mg base (L2.CX P w) 1 Z.f_NoSheet_init Z.d_NoSheet_init ["self", "place", "word"] (sp_NoSheet_init Z)) (G_Look_within : FnOk P w Z.K Z.mg base (L2.CX P w) 4 Z.f_Look_within Z.d_Look_within ["self", "low", "high"] (sp_Look_within Z)) (G_own_numbers : FnOk P w Z.K Z.mg base (L2.CX P w) 5 Z.f_own_numbers Z.d_own_numbers ["look", "heads", "boxes", "kind"] (sp_own_numbers Z)) : ∀ n : Nat, FnOk P w Z.K Z.mg base (L2.CX P w) (5 + n) Z.f_node_in Z.d_node_in ["look", "heads", "boxes", "deep"] (sp_node_in Z n)
  | 0 => fn_none fun vs H Q E h => by obtain ⟨_, _, _, _, rfl, h⟩ := h; exact no_node_in h
  | n + 1 => by
    have ih := grp_node_in (P := P) (w := w) (base := base) T G_NoSheet_init G_Look_within G_own_numbers n
    have G_node_in := ih
    exact ok_node_in T n G_NoSheet_init G_Look_within G_own_numbers G_node_in

theorem grp_Lnode {P : Program} {w : World} {base : Heap} {Z : Adr} (T : Top Z) (G_Lhead : FnOk P w Z.K Z.mg base (L2.CX P w) 3 Z.f_Lhead Z.d_Lhead ["_law_state", "_law_heads_here", "_law_boxes"] (sp_Lhead Z)) (G_Lleaf : FnOk P w Z.K Z.mg base (L2.CX P w) 4 Z.f_Lleaf Z.d_Lleaf ["_law_state", "_law_boxes"] (sp_Lleaf Z)) : ∀ n : Nat, FnOk P w Z.K Z.mg base (L2.CX P w) (4 + n) Z.f_Lnode Z.d_Lnode ["_law_state", "_law_heads_here", "_law_boxes", "_law_deep", "_law_room"] (sp_Lnode Z n)
  | 0 => fn_none fun vs H Q E h => by obtain ⟨_, _, _, _, _, rfl, h⟩ := h; exact no_Lnode h
  | n + 1 => by
    have ih := grp_Lnode (P := P) (w := w) (base := base) T G_Lhead G_Lleaf n
    have G_Lnode := ih
    exact ok_Lnode T n G_Lhead G_Lleaf G_Lnode

theorem grp_nodes_in {P : Program} {w : World} {base : Heap} {Z : Adr} (T : Top Z)  : ∀ n : Nat, FnOk P w Z.K Z.mg base (L2.CX P w) (0 + n) Z.f_nodes_in Z.d_nodes_in ["node"] (sp_nodes_in Z n)
  | 0 => fn_none fun vs H Q E h => by obtain ⟨_, rfl, h⟩ := h; exact no_nodes_in h
  | n + 1 => by
    have ih := grp_nodes_in (P := P) (w := w) (base := base) T  n
    have G_nodes_in := ih
    exact ok_nodes_in T n G_nodes_in
/-! ### the end -/
def sp_goal (K : PySem.W.Frag) : Sp := fun vs H Q _ => ∃ (a : Addr) (ns : List Int), vs = [.ref a] ∧ Only H ∧ Scr K H a ns ∧ ns.length ≤ 63 ∧ ∀ H', Q (.bl true) H'
theorem goal_law (Z : Adr) {vs : List V} {H : Hp} {Q : VK} {E : XK} (h : sp_goal Z.K vs H Q E) : sp_law Z vs H Q E := by
  obtain ⟨a, ns, rfl, h⟩ := h
  exact ⟨_, rfl, a, ns, rfl, h⟩

theorem hfacts {P : Program} {w : World} {K : PySem.W.Frag} {h : Heap} {mg : Str → Option Value} {f : Addr} (KX : K.In h) (G : h.Ns mainGlobals mg) (hlaw0 : mg "law" = some (.ref f)) (cc : ∀ c ∈ hcs, _root_.Z.SaysM c.fa c.fn c.tf c.ex c.tx c.dc w h K) :
    ∃ fd : FuncData, (∀ (s : Shared) (v : Value), BindsTo s fd ⟨[v], []⟩ [("_law_script", v)]) ∧ ∀ base : Heap, K.In base → base.Ns mainGlobals mg → ∃ Z : Adr, Z.K = K ∧ FnOk P w K mg base (L2.CX P w) 21 f fd ["_law_script"] (sp_law Z) := by
  have c0 : _root_.Z.SaysM hfa0 hfn0 [] hex0 htx hdc w h K := cc hc0 (List.mem_of_getElem? (i := 0) rfl)
  have c1 : _root_.Z.SaysM hfa1 hfn1 [] hex1 [] [] w h K := cc hc1 (List.mem_of_getElem? (i := 1) rfl)
  obtain ⟨tk_NUMBER, i_NUMBER⟩ := He.int_ok KX G (c0.d.fact 0 (f := .int "NUMBER" 0) rfl)
  obtain ⟨tk_GET, i_GET⟩ := He.int_ok KX G (c0.d.fact 1 (f := .int "GET" 1) rfl)
  obtain ⟨tk_SET, i_SET⟩ := He.int_ok KX G (c0.d.fact 2 (f := .int "SET" 2) rfl)
  obtain ⟨tk_ALL, i_ALL⟩ := He.int_ok KX G (c0.d.fact 3 (f := .int "ALL" 3) rfl)
  obtain ⟨tk_PICK, i_PICK⟩ := He.int_ok KX G (c0.d.fact 4 (f := .int "PICK" 4) rfl)
  obtain ⟨tk_LOOP, i_LOOP⟩ := He.int_ok KX G (c0.d.fact 5 (f := .int "LOOP" 5) rfl)
  obtain ⟨tk_CALL, i_CALL⟩ := He.int_ok KX G (c0.d.fact 6 (f := .int "CALL" 6) rfl)
  obtain ⟨tk_FAIL, i_FAIL⟩ := He.int_ok KX G (c0.d.fact 7 (f := .int "FAIL" 7) rfl)
  obtain ⟨tk_PUT, i_PUT⟩ := He.int_ok KX G (c0.d.fact 8 (f := .int "PUT" 17) rfl)
  obtain ⟨tk_SIZE, i_SIZE⟩ := He.int_ok KX G (c0.d.fact 9 (f := .int "SIZE" 18) rfl)
  obtain ⟨tk_NEW, i_NEW⟩ := He.int_ok KX G (c0.d.fact 10 (f := .int "NEW" 19) rfl)
  obtain ⟨tk_MOST_FUNCTIONS, i_MOST_FUNCTIONS⟩ := He.int_ok KX G (c0.d.fact 11 (f := .int "MOST_FUNCTIONS" 16) rfl)
  obtain ⟨tk_MOST_PARAMS, i_MOST_PARAMS⟩ := He.int_ok KX G (c0.d.fact 12 (f := .int "MOST_PARAMS" 4) rfl)
  obtain ⟨tk_MOST_BOXES, i_MOST_BOXES⟩ := He.int_ok KX G (c0.d.fact 13 (f := .int "MOST_BOXES" 12) rfl)
  obtain ⟨tk_MOST_PARTS, i_MOST_PARTS⟩ := He.int_ok KX G (c0.d.fact 14 (f := .int "MOST_PARTS" 12) rfl)
  obtain ⟨tk_MOST_DEEP, i_MOST_DEEP⟩ := He.int_ok KX G (c0.d.fact 15 (f := .int "MOST_DEEP" 10) rfl)
  obtain ⟨d_NoSheet_init, F_NoSheet_init⟩ := c0.func 0 (p := ("NoSheet", some "__init__")) (st := st_NoSheet_init) rfl
  obtain ⟨d_parts_of, F_parts_of⟩ := c0.func 1 (p := ("parts_of", none)) (st := st_parts_of) rfl
  obtain ⟨d_Look_init, F_Look_init⟩ := c0.func 2 (p := ("Look", some "__init__")) (st := st_Look_init) rfl
  obtain ⟨d_Look_due, F_Look_due⟩ := c0.func 3 (p := ("Look", some "due")) (st := st_Look_due) rfl
  obtain ⟨d_Look_within, F_Look_within⟩ := c0.func 4 (p := ("Look", some "within")) (st := st_Look_within) rfl
  obtain ⟨d_heads_in, F_heads_in⟩ := c0.func 5 (p := ("heads_in", none)) (st := st_heads_in) rfl
  obtain ⟨d_own_numbers, F_own_numbers⟩ := c0.func 6 (p := ("own_numbers", none)) (st := st_own_numbers) rfl
  obtain ⟨d_node_in, F_node_in⟩ := c0.func 7 (p := ("node_in", none)) (st := st_node_in) rfl
  obtain ⟨d_functions, F_functions⟩ := c0.func 8 (p := ("functions", none)) (st := st_functions) rfl
  obtain ⟨d_wrong, F_wrong⟩ := c0.func 9 (p := ("wrong", none)) (st := st_wrong) rfl
  obtain ⟨d_nodes_in, F_nodes_in⟩ := c0.func 10 (p := ("nodes_in", none)) (st := st_nodes_in) rfl
  obtain ⟨d_nodes, F_nodes⟩ := c0.func 11 (p := ("nodes", none)) (st := st_nodes) rfl
  obtain ⟨d_Lmixed, F_Lmixed⟩ := c0.func 12 (p := ("_law_mixed", none)) (st := st_Lmixed) rfl
  obtain ⟨d_Ltake, F_Ltake⟩ := c0.func 13 (p := ("_law_take", none)) (st := st_Ltake) rfl
  obtain ⟨d_Lheads, F_Lheads⟩ := c0.func 14 (p := ("_law_heads", none)) (st := st_Lheads) rfl
  obtain ⟨d_Lnumber, F_Lnumber⟩ := c0.func 15 (p := ("_law_number", none)) (st := st_Lnumber) rfl
  obtain ⟨d_Lleaf, F_Lleaf⟩ := c0.func 16 (p := ("_law_leaf", none)) (st := st_Lleaf) rfl
  obtain ⟨d_Lhead, F_Lhead⟩ := c0.func 17 (p := ("_law_head", none)) (st := st_Lhead) rfl
  obtain ⟨d_Lnode, F_Lnode⟩ := c0.func 18 (p := ("_law_node", none)) (st := st_Lnode) rfl
  obtain ⟨d_Lsheet, F_Lsheet⟩ := c0.func 19 (p := ("_law_sheet", none)) (st := st_Lsheet) rfl
  obtain ⟨d_Lsheet_with, F_Lsheet_with⟩ := c0.func 20 (p := ("_law_sheet_with", none)) (st := st_Lsheet_with) rfl
  obtain ⟨d_Lmany, F_Lmany⟩ := c0.func 21 (p := ("_law_many", none)) (st := st_Lmany) rfl
  obtain ⟨d_Ldepth, F_Ldepth⟩ := c0.func 22 (p := ("_law_depth", none)) (st := st_Ldepth) rfl
  obtain ⟨d_Ldepths, F_Ldepths⟩ := c0.func 23 (p := ("_law_depths", none)) (st := st_Ldepths) rfl
  obtain ⟨d_Lin_function, F_Lin_function⟩ := c1.func 0 (p := ("_law_in_function", none)) (st := st_Lin_function) rfl
  obtain ⟨d_Lheads_of, F_Lheads_of⟩ := c1.func 1 (p := ("_law_heads_of", none)) (st := st_Lheads_of) rfl
  obtain ⟨d_Lput, F_Lput⟩ := c1.func 2 (p := ("_law_put", none)) (st := st_Lput) rfl
  obtain ⟨d_Lall_bare, F_Lall_bare⟩ := c1.func 3 (p := ("_law_all_bare", none)) (st := st_Lall_bare) rfl
  obtain ⟨d_Lexchanged, F_Lexchanged⟩ := c1.func 4 (p := ("_law_exchanged", none)) (st := st_Lexchanged) rfl
  obtain ⟨d_law, F_law⟩ := c1.func 5 (p := ("law", none)) (st := st_law) rfl
  let Z : Adr := {
      K := K
      mg := mg
      t_NUMBER := tk_NUMBER
      t_GET := tk_GET
      t_SET := tk_SET
      t_ALL := tk_ALL
      t_PICK := tk_PICK
      t_LOOP := tk_LOOP
      t_CALL := tk_CALL
      t_FAIL := tk_FAIL
      t_PUT := tk_PUT
      t_SIZE := tk_SIZE
      t_NEW := tk_NEW
      t_MOST_FUNCTIONS := tk_MOST_FUNCTIONS
      t_MOST_PARAMS := tk_MOST_PARAMS
      t_MOST_BOXES := tk_MOST_BOXES
      t_MOST_PARTS := tk_MOST_PARTS
      t_MOST_DEEP := tk_MOST_DEEP
      c_Look := (He.ga K "Look")
      f_NoSheet_init := He.fAd K ("NoSheet", some "__init__")
      d_NoSheet_init := d_NoSheet_init
      f_parts_of := He.fAd K ("parts_of", none)
      d_parts_of := d_parts_of
      f_Look_init := He.fAd K ("Look", some "__init__")
      d_Look_init := d_Look_init
      f_Look_due := He.fAd K ("Look", some "due")
      d_Look_due := d_Look_due
      f_Look_within := He.fAd K ("Look", some "within")
      d_Look_within := d_Look_within
      f_heads_in := He.fAd K ("heads_in", none)
      d_heads_in := d_heads_in
      f_own_numbers := He.fAd K ("own_numbers", none)
      d_own_numbers := d_own_numbers
      f_node_in := He.fAd K ("node_in", none)
      d_node_in := d_node_in
      f_functions := He.fAd K ("functions", none)
      d_functions := d_functions
      f_wrong := He.fAd K ("wrong", none)
      d_wrong := d_wrong
      f_nodes_in := He.fAd K ("nodes_in", none)
      d_nodes_in := d_nodes_in
      f_nodes := He.fAd K ("nodes", none)
      d_nodes := d_nodes
      f_Lmixed := He.fAd K ("_law_mixed", none)
      d_Lmixed := d_Lmixed
      f_Ltake := He.fAd K ("_law_take", none)
      d_Ltake := d_Ltake
      f_Lheads := He.fAd K ("_law_heads", none)
      d_Lheads := d_Lheads
      f_Lnumber := He.fAd K ("_law_number", none)
      d_Lnumber := d_Lnumber
      f_Lleaf := He.fAd K ("_law_leaf", none)
      d_Lleaf := d_Lleaf
      f_Lhead := He.fAd K ("_law_head", none)
      d_Lhead := d_Lhead
      f_Lnode := He.fAd K ("_law_node", none)
      d_Lnode := d_Lnode
      f_Lsheet := He.fAd K ("_law_sheet", none)
      d_Lsheet := d_Lsheet
      f_Lsheet_with := He.fAd K ("_law_sheet_with", none)
      d_Lsheet_with := d_Lsheet_with
      f_Lmany := He.fAd K ("_law_many", none)
      d_Lmany := d_Lmany
      f_Ldepth := He.fAd K ("_law_depth", none)
      d_Ldepth := d_Ldepth
      f_Ldepths := He.fAd K ("_law_depths", none)
      d_Ldepths := d_Ldepths
      f_Lin_function := He.fAd K ("_law_in_function", none)
      d_Lin_function := d_Lin_function
      f_Lheads_of := He.fAd K ("_law_heads_of", none)
      d_Lheads_of := d_Lheads_of
      f_Lput := He.fAd K ("_law_put", none)
      d_Lput := d_Lput
      f_Lall_bare := He.fAd K ("_law_all_bare", none)
      d_Lall_bare := d_Lall_bare
      f_Lexchanged := He.fAd K ("_law_exchanged", none)
      d_Lexchanged := d_Lexchanged
      f_law := He.fAd K ("law", none)
      d_law := d_law
      c_ChainError := (He.ga K "ChainError")
      c_NoSheet := (He.ga K "NoSheet") }
  have T : Top Z := {
      g_NUMBER := i_NUMBER
      g_GET := i_GET
      g_SET := i_SET
      g_ALL := i_ALL
      g_PICK := i_PICK
      g_LOOP := i_LOOP
      g_CALL := i_CALL
      g_FAIL := i_FAIL
      g_PUT := i_PUT
      g_SIZE := i_SIZE
      g_NEW := i_NEW
      g_MOST_FUNCTIONS := i_MOST_FUNCTIONS
      g_MOST_PARAMS := i_MOST_PARAMS
      g_MOST_BOXES := i_MOST_BOXES
      g_MOST_PARTS := i_MOST_PARTS
      g_MOST_DEEP := i_MOST_DEEP
      n_abs := He.free_ok KX G (c0.d.fact 16 (f := .free "abs") rfl)
      n_int := He.free_ok KX G (c0.d.fact 17 (f := .free "int") rfl)
      n_isinstance := He.free_ok KX G (c0.d.fact 18 (f := .free "isinstance") rfl)
      n_len := He.free_ok KX G (c0.d.fact 19 (f := .free "len") rfl)
      n_list := He.free_ok KX G (c0.d.fact 20 (f := .free "list") rfl)
      n_max := He.free_ok KX G (c0.d.fact 21 (f := .free "max") rfl)
      n_range := He.free_ok KX G (c0.d.fact 22 (f := .free "range") rfl)
      n_tuple := He.free_ok KX G (c0.d.fact 23 (f := .free "tuple") rfl)
      g_Look := He.glo_ok KX G (c0.d.fact 24 (f := .glo "Look") rfl)
      cl_Look := He.cls_ok (c0.d.fact 25 (f := .cls "Look") rfl)
      M_Look := He.mkr_ok (c0.d.fact 26 (f := .mkr "Look") rfl)
      mt_Look_due := He.meth_ok (c0.d.fact 27 (f := .meth "Look" "due") rfl)
      mt_Look_within := He.meth_ok (c0.d.fact 28 (f := .meth "Look" "within") rfl)
      na_Look_numbers := He.noat_ok (c0.d.fact 29 (f := .noat "Look" "numbers") rfl)
      na_Look_place := He.noat_ok (c0.d.fact 30 (f := .noat "Look" "place") rfl)
      F_NoSheet_init := F_NoSheet_init
      b_NoSheet_init := F_NoSheet_init.binds (ps := ["self", "place", "word"]) fun _ _ _ _ _ _ us hl => match us, hl with | [_, _, _], _ => rfl
      F_parts_of := F_parts_of
      b_parts_of := F_parts_of.binds (ps := ["kind"]) fun _ _ _ _ _ _ us hl => match us, hl with | [_], _ => rfl
      m_parts_of := He.glo_ok KX G (c0.d.fact 31 (f := .glo "parts_of") rfl)
      F_Look_init := F_Look_init
      b_Look_init := F_Look_init.binds (ps := ["self", "numbers"]) fun _ _ _ _ _ _ us hl => match us, hl with | [_, _], _ => rfl
      F_Look_due := F_Look_due
      b_Look_due := F_Look_due.binds (ps := ["self"]) fun _ _ _ _ _ _ us hl => match us, hl with | [_], _ => rfl
      F_Look_within := F_Look_within
      b_Look_within := F_Look_within.binds (ps := ["self", "low", "high"]) fun _ _ _ _ _ _ us hl => match us, hl with | [_, _, _], _ => rfl
      F_heads_in := F_heads_in
      b_heads_in := F_heads_in.binds (ps := ["look"]) fun _ _ _ _ _ _ us hl => match us, hl with | [_], _ => rfl
      m_heads_in := He.glo_ok KX G (c0.d.fact 32 (f := .glo "heads_in") rfl)
      F_own_numbers := F_own_numbers
      b_own_numbers := F_own_numbers.binds (ps := ["look", "heads", "boxes", "kind"]) fun _ _ _ _ _ _ us hl => match us, hl with | [_, _, _, _], _ => rfl
      m_own_numbers := He.glo_ok KX G (c0.d.fact 33 (f := .glo "own_numbers") rfl)
      F_node_in := F_node_in
      b_node_in := F_node_in.binds (ps := ["look", "heads", "boxes", "deep"]) fun _ _ _ _ _ _ us hl => match us, hl with | [_, _, _, _], _ => rfl
      m_node_in := He.glo_ok KX G (c0.d.fact 34 (f := .glo "node_in") rfl)
      F_functions := F_functions
      b_functions := F_functions.binds (ps := ["sheet"]) fun _ _ _ _ _ _ us hl => match us, hl with | [_], _ => rfl
      m_functions := He.glo_ok KX G (c0.d.fact 35 (f := .glo "functions") rfl)
      F_wrong := F_wrong
      b_wrong := F_wrong.binds (ps := ["numbers"]) fun _ _ _ _ _ _ us hl => match us, hl with | [_], _ => rfl
      m_wrong := He.glo_ok KX G (c0.d.fact 36 (f := .glo "wrong") rfl)
      F_nodes_in := F_nodes_in
      b_nodes_in := F_nodes_in.binds (ps := ["node"]) fun _ _ _ _ _ _ us hl => match us, hl with | [_], _ => rfl
      m_nodes_in := He.glo_ok KX G (c0.d.fact 37 (f := .glo "nodes_in") rfl)
      F_nodes := F_nodes
      b_nodes := F_nodes.binds (ps := ["sheet"]) fun _ _ _ _ _ _ us hl => match us, hl with | [_], _ => rfl
      m_nodes := He.glo_ok KX G (c0.d.fact 38 (f := .glo "nodes") rfl)
      F_Lmixed := F_Lmixed
      b_Lmixed := F_Lmixed.binds (ps := ["_law_cell", "_law_k"]) fun _ _ _ _ _ _ us hl => match us, hl with | [_, _], _ => rfl
      m_Lmixed := He.glo_ok KX G (c0.d.fact 39 (f := .glo "_law_mixed") rfl)
      F_Ltake := F_Ltake
      b_Ltake := F_Ltake.binds (ps := ["_law_state", "_law_many_here"]) fun _ _ _ _ _ _ us hl => match us, hl with | [_, _], _ => rfl
      m_Ltake := He.glo_ok KX G (c0.d.fact 40 (f := .glo "_law_take") rfl)
      F_Lheads := F_Lheads
      b_Lheads := F_Lheads.binds (ps := ["_law_state"]) fun _ _ _ _ _ _ us hl => match us, hl with | [_], _ => rfl
      m_Lheads := He.glo_ok KX G (c0.d.fact 41 (f := .glo "_law_heads") rfl)
      F_Lnumber := F_Lnumber
      b_Lnumber := F_Lnumber.binds (ps := ["_law_state"]) fun _ _ _ _ _ _ us hl => match us, hl with | [_], _ => rfl
      m_Lnumber := He.glo_ok KX G (c0.d.fact 42 (f := .glo "_law_number") rfl)
      F_Lleaf := F_Lleaf
      b_Lleaf := F_Lleaf.binds (ps := ["_law_state", "_law_boxes"]) fun _ _ _ _ _ _ us hl => match us, hl with | [_, _], _ => rfl
      m_Lleaf := He.glo_ok KX G (c0.d.fact 43 (f := .glo "_law_leaf") rfl)
      F_Lhead := F_Lhead
      b_Lhead := F_Lhead.binds (ps := ["_law_state", "_law_heads_here", "_law_boxes"]) fun _ _ _ _ _ _ us hl => match us, hl with | [_, _, _], _ => rfl
      m_Lhead := He.glo_ok KX G (c0.d.fact 44 (f := .glo "_law_head") rfl)
      F_Lnode := F_Lnode
      b_Lnode := F_Lnode.binds (ps := ["_law_state", "_law_heads_here", "_law_boxes", "_law_deep", "_law_room"]) fun _ _ _ _ _ _ us hl => match us, hl with | [_, _, _, _, _], _ => rfl
      m_Lnode := He.glo_ok KX G (c0.d.fact 45 (f := .glo "_law_node") rfl)
      F_Lsheet := F_Lsheet
      b_Lsheet := F_Lsheet.binds (ps := ["_law_state", "_law_most"]) fun _ _ _ _ _ _ us hl => match us, hl with | [_, _], _ => rfl
      m_Lsheet := He.glo_ok KX G (c0.d.fact 46 (f := .glo "_law_sheet") rfl)
      F_Lsheet_with := F_Lsheet_with
      b_Lsheet_with := F_Lsheet_with.binds (ps := ["_law_state", "_law_heads_here", "_law_most"]) fun _ _ _ _ _ _ us hl => match us, hl with | [_, _, _], _ => rfl
      m_Lsheet_with := He.glo_ok KX G (c0.d.fact 47 (f := .glo "_law_sheet_with") rfl)
      F_Lmany := F_Lmany
      b_Lmany := F_Lmany.binds (ps := ["_law_node_here"]) fun _ _ _ _ _ _ us hl => match us, hl with | [_], _ => rfl
      m_Lmany := He.glo_ok KX G (c0.d.fact 48 (f := .glo "_law_many") rfl)
      F_Ldepth := F_Ldepth
      b_Ldepth := F_Ldepth.binds (ps := ["_law_node_here"]) fun _ _ _ _ _ _ us hl => match us, hl with | [_], _ => rfl
      m_Ldepth := He.glo_ok KX G (c0.d.fact 49 (f := .glo "_law_depth") rfl)
      F_Ldepths := F_Ldepths
      b_Ldepths := F_Ldepths.binds (ps := ["_law_some"]) fun _ _ _ _ _ _ us hl => match us, hl with | [_], _ => rfl
      m_Ldepths := He.glo_ok KX G (c0.d.fact 50 (f := .glo "_law_depths") rfl)
      F_Lin_function := F_Lin_function
      b_Lin_function := F_Lin_function.binds (ps := ["_law_depths_here", "_law_function"]) fun _ _ _ _ _ _ us hl => match us, hl with | [_, _], _ => rfl
      m_Lin_function := He.glo_ok KX G (c0.d.fact 51 (f := .glo "_law_in_function") rfl)
      F_Lheads_of := F_Lheads_of
      b_Lheads_of := F_Lheads_of.binds (ps := ["_law_sheet_here"]) fun _ _ _ _ _ _ us hl => match us, hl with | [_], _ => rfl
      m_Lheads_of := He.glo_ok KX G (c0.d.fact 52 (f := .glo "_law_heads_of") rfl)
      F_Lput := F_Lput
      b_Lput := F_Lput.binds (ps := ["_law_sheet_here", "_law_node_here", "_law_numbers"]) fun _ _ _ _ _ _ us hl => match us, hl with | [_, _, _], _ => rfl
      m_Lput := He.glo_ok KX G (c0.d.fact 53 (f := .glo "_law_put") rfl)
      F_Lall_bare := F_Lall_bare
      b_Lall_bare := F_Lall_bare.binds (ps := ["_law_some"]) fun _ _ _ _ _ _ us hl => match us, hl with | [_], _ => rfl
      m_Lall_bare := He.glo_ok KX G (c0.d.fact 54 (f := .glo "_law_all_bare") rfl)
      F_Lexchanged := F_Lexchanged
      b_Lexchanged := F_Lexchanged.binds (ps := ["_law_sheet_here", "_law_some", "_law_at", "_law_numbers", "_law_deep"]) fun _ _ _ _ _ _ us hl => match us, hl with | [_, _, _, _, _], _ => rfl
      m_Lexchanged := He.glo_ok KX G (c0.d.fact 55 (f := .glo "_law_exchanged") rfl)
      F_law := F_law
      b_law := F_law.binds (ps := ["_law_script"]) fun _ _ _ _ _ _ us hl => match us, hl with | [_], _ => rfl
      m_law := He.glo_ok KX G (c0.d.fact 56 (f := .glo "law") rfl)
      g_ChainError := He.glo_ok KX G (c0.d.fact 57 (f := .glo "ChainError") rfl)
      ri_ChainError := (c0.bool 0 rfl)
      rs_ChainError := (c0.dec 1 rfl)
      rv_ChainError := _root_.Z.veiB_ok (c0.bool 2 rfl)
      g_NoSheet := He.glo_ok KX G (c0.d.fact 58 (f := .glo "NoSheet") rfl)
      na_NoSheet_place := (c0.dec 3 rfl)
      na_NoSheet_word := (c0.dec 4 rfl)
      ox_NoSheet := ⟨_root_.Z.oexB_ok (c0.bool 5 rfl), (c0.dec 6 rfl), (c0.dec 7 rfl), (c0.dec 8 rfl), (c0.bool 9 rfl)⟩
      xf_NoSheet := xfB_ok (c0.bool 10 rfl)
      oi_NoSheet := (c0.dec 11 rfl)
      ot_NoSheet := (c0.dec 12 rfl)
      ex_NoSheet_NoSheet := He.exm_ok (c0.d.fact 59 (f := .exm "NoSheet" "NoSheet" true) rfl) }
  have e := hlaw0.symm.trans T.m_law
  cases e
  obtain ⟨e1, e2⟩ : (∃ bb : Binds K d_law ["_law_script"] [], True) ∧ True := ⟨⟨T.b_law, trivial⟩, trivial⟩
  refine ⟨d_law, fun s v => ?_, fun base _ _ => ⟨Z, rfl, ?_⟩⟩
  · obtain ⟨oc, od, kV, doc, pm, an, cdv, ct, osl, z1, z2, z3⟩ := F_law.ex
    subst z1
    exact .of_eq rfl
  have G_Lmixed := ok_Lmixed (P := P) (w := w) (base := base) T 
  have G_Ltake := ok_Ltake (P := P) (w := w) (base := base) T G_Lmixed
  have G_Lheads := ok_Lheads (P := P) (w := w) (base := base) T G_Ltake
  have G_Lhead := ok_Lhead (P := P) (w := w) (base := base) T G_Ltake
  have G_Lnumber := ok_Lnumber (P := P) (w := w) (base := base) T G_Ltake
  have G_Lleaf := ok_Lleaf (P := P) (w := w) (base := base) T G_Ltake G_Lnumber
  have GG := grp_Lnode (P := P) (w := w) (base := base) T G_Lhead G_Lleaf 12
  have G_Lnode := GG
  have G_Lsheet := ok_Lsheet (P := P) (w := w) (base := base) T G_Lheads G_Lnode G_Ltake
  have G_Lheads_of := ok_Lheads_of (P := P) (w := w) (base := base) T 
  have G_Lsheet_with := ok_Lsheet_with (P := P) (w := w) (base := base) T G_Lnode G_Ltake
  have G_Look_init := ok_Look_init (P := P) (w := w) (base := base) T 
  have G_NoSheet_init := ok_NoSheet_init (P := P) (w := w) (base := base) T 
  have G_Look_due := ok_Look_due (P := P) (w := w) (base := base) T G_NoSheet_init
  have G_Look_within := ok_Look_within (P := P) (w := w) (base := base) T G_Look_due G_NoSheet_init
  have G_heads_in := ok_heads_in (P := P) (w := w) (base := base) T G_Look_within
  have G_parts_of := ok_parts_of (P := P) (w := w) (base := base) T 
  have G_own_numbers := ok_own_numbers (P := P) (w := w) (base := base) T G_Look_due G_Look_within G_parts_of
  have GG := grp_node_in (P := P) (w := w) (base := base) T G_NoSheet_init G_Look_within G_own_numbers 12
  have G_node_in := GG
  have G_functions := ok_functions (P := P) (w := w) (base := base) T G_Look_init G_heads_in G_node_in G_NoSheet_init
  have GG := grp_nodes_in (P := P) (w := w) (base := base) T  12
  have G_nodes_in := GG
  have G_nodes := ok_nodes (P := P) (w := w) (base := base) T G_functions G_nodes_in
  have G_Lmany := ok_Lmany (P := P) (w := w) (base := base) T 
  have G_Ldepths := ok_Ldepths (P := P) (w := w) (base := base) T G_Lmany
  have G_Lin_function := ok_Lin_function (P := P) (w := w) (base := base) T 
  have G_Lput := ok_Lput (P := P) (w := w) (base := base) T G_Lmany
  have G_wrong := ok_wrong (P := P) (w := w) (base := base) T G_functions
  have G_Lall_bare := ok_Lall_bare (P := P) (w := w) (base := base) T 
  have G_Lexchanged := ok_Lexchanged (P := P) (w := w) (base := base) T G_Ldepths G_Lput G_wrong G_Lmany G_nodes G_Lall_bare
  have G_Ldepth := ok_Ldepth (P := P) (w := w) (base := base) T 
  have G_law := ok_law (P := P) (w := w) (base := base) T G_Lsheet G_Lheads_of G_Lsheet_with G_nodes G_Ldepths G_Ltake G_Lin_function G_Lmany G_Lexchanged G_Ldepth G_wrong
  exact G_law
end My
namespace My
open PySem Z
open L2 hiding rLen Same Same.refl Same.trans Same.free Same.seq Same.made

theorem all_mk : AllT := by
  intro w mg f h Y G hl
  obtain ⟨K, KX, cc⟩ := Y
  letI iq : TQ := ⟨fun _ => ""⟩
  obtain ⟨fd, hb, hF⟩ := hfacts (P := (PySem.Challenge.rw_ownchain_k07_whole_parts_exchanged).prog) (w := w) KX G hl cc
  refine ⟨K, fd, sp_goal K, KX, hb, fun H a ns hn hO hS => ⟨a, ns, rfl, hO, _root_.Z.Scr.of hO hS, hn, fun _ => rfl⟩, fun base b1 b2 => ?_⟩
  obtain ⟨Z, hZ, gg⟩ := hF base b1 b2
  exact gg.imp fun vs H Q E q => goal_law Z (hZ ▸ q)
end My
theorem PySem.Challenge.cw_ownchain_k07_whole_parts_exchanged_holds : PySem.Challenge.rw_ownchain_k07_whole_parts_exchanged.Holds := by
  exact My.head_ownchain_k07_whole_parts_exchanged My.all_mk
