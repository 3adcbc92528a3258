import PyProof.Rows.All
import Wide.All
import OpenK.AllK
import Wide.FinOn
import PySem.Challenge.RW_sa0140_01
open PySem PySem.W PyProof.Rows PySem.Spec PySem.Calls
set_option Elab.async false
set_option compiler.extract_closed false
namespace Mine
set_option maxRecDepth 100000 in
set_option maxHeartbeats 8000000 in
open_top hd for PySem.Challenge.rw_sa0140_01

section
variable {prog : Program} {w : World} {A : Around} {E : Value → Shared → Prop} {s : Shared} {h₀ h : Heap} {L D : Addr} {m : Str → Option Value} {news news' pre post : List (Addr × Obj)} {us : List Value} {n : Nat}
theorem my_append {v : Value} {Q : Value → Shared → Prop} (F : Fr h₀ L s.heap m) (N : News h₀ L s.heap news) (U : Upd D (listOf us.toArray n) (listOf (us ++ [v]).toArray (n + 1)) news news') (hz : us.length ≤ sizeLine)
    (h : ∀ h', Fr h₀ L h' m → News h₀ L h' news' → Q .none { s with heap := h' }) : wpAny (model prog w) A (call (.builtin "list.append") [.ref D, v]) Q E s := by
  have e : (us ++ [v]).toArray = us.toArray.push v := by simp
  rw [e] at U
  exact append_K F N U h (by simpa using hz)
theorem my_reverse {Q : Value → Shared → Prop} (F : Fr h₀ L s.heap m) (N : News h₀ L s.heap news) (U : Upd D (listOf us.toArray n) (listOf us.reverse.toArray n) news news') (hz : us.length ≤ sizeLine)
    (h : ∀ h', Fr h₀ L h' m → News h₀ L h' news' → Q .none { s with heap := h' }) : wpAny (model prog w) A (call (.builtin "list.reverse") [.ref D]) Q E s := by
  obtain ⟨pre, post, rfl, rfl, a, b⟩ := U.split
  have z := N (D, listOf us.toArray n) (List.mem_append.mpr (.inr (.head _)))
  have hz' : us.toArray.size ≤ sizeLine := by simpa using hz
  refine call_meets PySem.F.slot_list_reverse ⟨_, z.1, rfl⟩ PySem.F.entry_list_reverse (PySem.F.args_list_reverse_1 _) (AutoListH.list_reverse_list_0 D _ n hz') ⟨z.1, h _ (F.change (Heap.SameBut.update ..) z.2.1 z.2.2) ?_⟩
  refine news_set N a b (Heap.SameBut.update ..) ?_
  have q := PySem.IsL.update z.1 (fun x => x.reverse)
  simpa using q
theorem my_len {Q : Value → Shared → Prop} (N : News h₀ L s.heap news) (hm : (D, listOf us.toArray n) ∈ news) (hz : us.length ≤ 100000)
    (h : Q (.int (us.length : Int) (s.toks + 1)) { s with toks := s.toks + 1 + 1 }) : wpAny (model prog w) A (call (.builtin "len") [.ref D]) Q E s := by
  have hl : s.heap.IsList D us.toArray := ⟨_, (N _ hm).1, rfl, n, rfl⟩
  have e2 : us.toArray.size = us.length := by simp
  exact len_list hl (by rw [e2]; omega) (by rw [e2]; exact h)
theorem newsSub (N : News h₀ L h news) (hs : ∀ p ∈ news', p ∈ news) : News h₀ L h news' := fun p hp => N p (hs p hp)
theorem newsSub1 {x y : Addr × Obj} (N : News h₀ L h (x :: y :: news)) (hs : ∀ p ∈ news', p ∈ news) : News h₀ L h (y :: news') := fun p hp => N p (.tail _ ((List.mem_cons.mp hp).elim (fun e => e ▸ .head _) fun hp => .tail _ (hs p hp)))
theorem pos_of_ne {ws : List Value} {ns : List Int} (I : IntsAre ws ns) (h : decide (ns = []) = false) : 0 < ws.length := by
  cases I with
  | nil => simp at h
  | cons => simp
end
/-- the coins: a list of ints, not long -/
def Coins (ws : List Value) : Prop := ∃ ns, IntsAre ws ns ∧ ns.length ≤ 200

def Stop (p : Prop) : Prop := p
theorem stopHere {p : Prop} (h : Stop p) : p := h
theorem range_size {b : Int} (h0 : 0 ≤ b) : Builtin.Range.rangeSize 0 b 1 = (b.toNat : Int) := by
  unfold Builtin.Range.rangeSize
  simp
  split <;> omega
theorem range_small {b : Int} (h0 : 0 ≤ b) (h1 : b ≤ 1000) : Builtin.Range.small 0 b 1 = true := by
  unfold Builtin.Range.small
  rw [range_size h0]
  simp [Builtin.Range.rangeFitsLong]
  omega

theorem toFalse {α : Type} {M : Model} {A : Around} {t : Sem α} {Q : α → Shared → Prop} {E : Value → Shared → Prop} {s : Shared} (h : wpAny M A t Q (fun _ _ => False) s) : wpAny M A t Q E s := wpAny_mono h (fun _ _ h => h) fun _ _ h => h.elim

/-- a fact put out of the tactics' sight -/
structure Hid (p : Prop) : Prop where
  out : p
local macro_rules | `(tactic| walk_at $s:str) => `(tactic| k_extra $s)
local macro_rules | `(tactic| units_room) => `(tactic| k_extra "units_room")
local macro_rules | `(tactic| k_all) => `(tactic| k_extra "k_all")
local macro_rules | `(tactic| k_mem) => `(tactic| k_extra "k_mem")
local macro_rules | `(tactic| kpa_ne) => `(tactic| k_extra "kpa_ne")
local macro_rules | `(tactic| k_room) => `(tactic| k_extra "k_room")
local macro_rules | `(tactic| k_units) => `(tactic| k_extra "k_units")
local macro_rules | `(tactic| k_ne) => `(tactic| k_extra "k_ne")
local macro_rules | `(tactic| k_enter) => `(tactic| k_extra "k_enter")
section
set_option maxRecDepth 100000 in
set_option maxHeartbeats 8000000 in
theorem coin_ok (w : World) (mean : ExcName → Option Value) (mg mb : Str → Option Value) 
  (dp un : Nat) (gd : Option (List Code)) (cn : Str) (cs : Scope) (a : Addr) (ccd : Value) (cl : List (Str × Addr)) (outer : List Env) (A₀ : Around) (base h₀ : Heap) (L : Addr) (m : Str → Option Value) (s : Shared)
  (c : Addr) (ws : List Value) (e : Nat) (rest : List (Addr × Obj)) (sides : Int) (tk : Tok) (Q E : Value → Shared → Prop)
  (B : Below A₀ base outer h₀) (F : Fr h₀ L s.heap m) (X : (hd.heap_39 w.params).In h₀) (N : News h₀ L s.heap ((c, listOf ws.toArray e) :: rest))
  (T : Top hd.view_39 (looseW hd.view_39 []) mean mg mb h₀) (hk : cs.kind = .function) (I : Coins ws) (hs : 0 < sides) (hs2 : sides < 100) (hoff : ∀ p ∈ rest, p.1 ≠ c)
  (hd : dp ≤ 400) (hu : un ≤ 1000)
  (ret : ∀ r t ws' e' h' tk', 0 ≤ r → r < sides → Coins ws' → Fr h₀ L h' m → News h₀ L h' ((c, listOf ws'.toArray e') :: rest) → Q (.int r t) { s with heap := h', toks := tk' }) :
   wpAny (model PySem.Challenge.rw_sa0140_01.row.prog w) (ktrTop dp un gd cn cs L a ccd cl outer) (call (.ref 75) [.ref c, .int sides tk]) Q E s := by
  revert X
  w_top off
  k_with_none
  k_with "units_room" => (((have _ := cLine_is); simp only [units_in1, units_deeper, Around.mark_units, units_caller]; (try dsimp only [ktrTop]); omega))
  k_with "k_all" => (assumption)
  k_with "kpa_ne" => (exact pos_of_ne (by assumption) (by assumption))
  k_with "call builtin:list.reverse" => ((k_here; k_dflt (refine' my_reverse ?zF ?zN ?zU ?zz ?_; (case zF => k_asm); (case zN => k_asm); (case zU => k_upd); (case zz => ((simp only [sizeLine_eq, List.length_append, List.length_cons, List.length_nil]); first | omega | ((simp only [rangeKs_length] at *); omega)))); intro _ _ _; (try k_sweep)))
  k_with "call builtin:list.append" => ((k_here; (with_reducible show wpAny _ _ (call (Value.builtin _) [Value.ref _, _]) _ _ _); k_dflt (refine' my_append ?zF ?zN ?zU ?zz ?_; (case zF => k_asm); (case zN => k_asm); (case zU => k_upd); (case zz => ((simp only [sizeLine_eq, List.length_append, List.length_cons, List.length_nil]); first | omega | ((simp only [rangeKs_length] at *); omega)))); intro _ _ _; (try k_sweep)))
  k_with "call builtin:len" => ((k_here; (with_reducible show wpAny _ _ (call (Value.builtin "len") [Value.ref _]) _ _ _); k_dflt (refine' my_len ?zN ?zm ?zz ?_; (case zN => k_asm); (case zm => k_mem); (case zz => ((try simp only [List.length_append, List.length_cons, List.length_nil]); omega))); (try simp only [List.length_append, List.length_cons, List.length_nil])))
  k_with "k_room" => (((try simp only [depth_under_make, depth_under_kw, depth_in1, depth_deeper, depth_caller, recursionLimit]); (try dsimp only [ktrTop]); omega))
  k_with "k_units" => (units_room)
  k_with "k_enter" => (first
    | (refine' code_def ?ze1 ?ze2 ?ze3 ?ze4 ?ze5 ?ze6 ?ze7 ?ze8 ?ze9 ?ze10 ?ze11 ?ze12 ?ze13 ?_ ?ze14 ?ze15 ?ze16 ?ze17; (case ze6 => exact rfl); (case ze7 => exact rfl); (case ze8 => first | exact rfl | assumption); (case ze1 => k_asm); (case ze2 => k_asm); (case ze3 => k_asm); (case ze4 => k_asm); (case ze5 => k_asm); (case ze9 => k_is); (case ze10 => k_is); (case ze11 => k_room); (case ze12 => exact BindsTo.of_eq rfl); (case ze17 => decide); (case ze13 => exact locs rfl); (case ze14 => exact rfl); (case ze15 => exact rfl); (case ze16 => exact rfl); k_whole; intro _ _ _ _ _ _ _ _ _; (try dsimp only); (try k_fold))
    | (refine' code_defC ?ze1 ?ze2 ?ze3 ?ze4 ?ze5 ?ze6 ?ze7 ?ze8 ?ze9 ?ze10 ?ze11 ?ze12 ?ze13 ?ze14 ?_ ?ze15 ?ze16 ?ze17; (case ze6 => exact rfl); (case ze7 => exact rfl); (case ze8 => first | exact rfl | assumption); (case ze1 => k_asm); (case ze2 => k_asm); (case ze3 => k_asm); (case ze4 => k_asm); (case ze5 => k_asm); (case ze9 => k_is); (case ze10 => k_is); (case ze11 => k_room); (case ze12 => exact BindsTo.of_eq rfl); (case ze13 => exact rfl); (case ze14 => decide +kernel); (case ze15 => exact rfl); (case ze16 => exact rfl); (case ze17 => exact rfl); k_whole; intro _ _ _ _ _ _ _ N'z Y'z _ _ _ l1z; (try k_lt l1z); k_cells Y'z; (try simp only [List.cons_append, List.nil_append] at N'z); (try dsimp only); (try k_fold)))
  k_fill
  intro X
  obtain ⟨ns, I, hlen⟩ := I
  have hwl := I.length
  have hl : s.heap.IsList c ws.toArray := N.isList (.head _)
  refine wpAny_call ?_
  k_dflt ktr_enter
  refine toFalse ?_
  k_steps
  · rename_i N9 _ _
    exact ret _ _ _ _ _ _ (Int.le_refl 0) hs ⟨_, I, hlen⟩ (by assumption) (newsSub N9 fun p hp => .tail _ hp)
  · rename_i N9 _ _
    rename IntsAre _ _ => I9
    refine ret _ _ _ _ _ _ ?_ ?_ ⟨_, I9, ?_⟩ (by assumption) (newsSub N9 fun p hp => .tail _ hp)
    · exact Int.fmod_nonneg_of_pos _ hs
    · exact Int.fmod_lt_of_pos _ hs
    · simp; omega
end
section
set_option maxRecDepth 100000 in
set_option maxHeartbeats 8000000 in
theorem coins_ok (w : World) (mean : ExcName → Option Value) (mg mb : Str → Option Value) 
  (dp un : Nat) (gd : Option (List Code)) (cn : Str) (cs : Scope) (a : Addr) (ccd : Value) (cl : List (Str × Addr)) (outer : List Env) (A₀ : Around) (base h₀ : Heap) (L : Addr) (m : Str → Option Value) (s : Shared)
  (c : Addr) (vs : List Value) (ns : List Int) (news : List (Addr × Obj)) (Q E : Value → Shared → Prop)
  (B : Below A₀ base outer h₀) (F : Fr h₀ L s.heap m) (X : (hd.heap_39 w.params).In h₀) (N : News h₀ L s.heap news)
  (T : Top hd.view_39 (looseW hd.view_39 []) mean mg mb h₀) (hk : cs.kind = .function) (hl : base.IsList c vs.toArray) (I : IntsAre vs ns) (hlen : ns.length ≤ 63) 
  (hd : dp ≤ 400) (hu : un ≤ 1000)
  (ret : ∀ c ws' e' h' tk', Coins ws' → Fr h₀ L h' m → News h₀ L h' ((c, listOf ws'.toArray e') :: news) → (∀ p ∈ news, p.1 < c) → Q (.ref c) { s with heap := h', toks := tk' }) :
   wpAny (model PySem.Challenge.rw_sa0140_01.row.prog w) (ktrTop dp un gd cn cs L a ccd cl outer) (call (.ref 68) [.ref c]) Q E s := by
  revert X
  w_top off
  k_with_none
  k_with "units_room" => (((have _ := cLine_is); simp only [units_in1, units_deeper, Around.mark_units, units_caller]; (try dsimp only [ktrTop]); omega))
  k_with "k_all" => (assumption)
  k_with "kpa_ne" => (exact pos_of_ne (by assumption) (by assumption))
  k_with "call builtin:list.reverse" => ((k_here; k_dflt (refine' my_reverse ?zF ?zN ?zU ?zz ?_; (case zF => k_asm); (case zN => k_asm); (case zU => k_upd); (case zz => ((simp only [sizeLine_eq, List.length_append, List.length_cons, List.length_nil]); first | omega | ((simp only [rangeKs_length] at *); omega)))); intro _ _ _; (try k_sweep)))
  k_with "call builtin:list.append" => ((k_here; (with_reducible show wpAny _ _ (call (Value.builtin _) [Value.ref _, _]) _ _ _); k_dflt (refine' my_append ?zF ?zN ?zU ?zz ?_; (case zF => k_asm); (case zN => k_asm); (case zU => k_upd); (case zz => ((simp only [sizeLine_eq, List.length_append, List.length_cons, List.length_nil]); first | omega | ((simp only [rangeKs_length] at *); omega)))); intro _ _ _; (try k_sweep)))
  k_with "call builtin:len" => ((k_here; (with_reducible show wpAny _ _ (call (Value.builtin "len") [Value.ref _]) _ _ _); k_dflt (refine' my_len ?zN ?zm ?zz ?_; (case zN => k_asm); (case zm => k_mem); (case zz => ((try simp only [List.length_append, List.length_cons, List.length_nil]); omega))); (try simp only [List.length_append, List.length_cons, List.length_nil])))
  k_with "k_room" => (((try simp only [depth_under_make, depth_under_kw, depth_in1, depth_deeper, depth_caller, recursionLimit]); (try dsimp only [ktrTop]); omega))
  k_with "k_units" => (units_room)
  k_with "k_enter" => (first
    | (refine' code_def ?ze1 ?ze2 ?ze3 ?ze4 ?ze5 ?ze6 ?ze7 ?ze8 ?ze9 ?ze10 ?ze11 ?ze12 ?ze13 ?_ ?ze14 ?ze15 ?ze16 ?ze17; (case ze6 => exact rfl); (case ze7 => exact rfl); (case ze8 => first | exact rfl | assumption); (case ze1 => k_asm); (case ze2 => k_asm); (case ze3 => k_asm); (case ze4 => k_asm); (case ze5 => k_asm); (case ze9 => k_is); (case ze10 => k_is); (case ze11 => k_room); (case ze12 => exact BindsTo.of_eq rfl); (case ze17 => decide); (case ze13 => exact locs rfl); (case ze14 => exact rfl); (case ze15 => exact rfl); (case ze16 => exact rfl); k_whole; intro _ _ _ _ _ _ _ _ _; (try dsimp only); (try k_fold))
    | (refine' code_defC ?ze1 ?ze2 ?ze3 ?ze4 ?ze5 ?ze6 ?ze7 ?ze8 ?ze9 ?ze10 ?ze11 ?ze12 ?ze13 ?ze14 ?_ ?ze15 ?ze16 ?ze17; (case ze6 => exact rfl); (case ze7 => exact rfl); (case ze8 => first | exact rfl | assumption); (case ze1 => k_asm); (case ze2 => k_asm); (case ze3 => k_asm); (case ze4 => k_asm); (case ze5 => k_asm); (case ze9 => k_is); (case ze10 => k_is); (case ze11 => k_room); (case ze12 => exact BindsTo.of_eq rfl); (case ze13 => exact rfl); (case ze14 => decide +kernel); (case ze15 => exact rfl); (case ze16 => exact rfl); (case ze17 => exact rfl); k_whole; intro _ _ _ _ _ _ _ N'z Y'z _ _ _ l1z; (try k_lt l1z); k_cells Y'z; (try simp only [List.cons_append, List.nil_append] at N'z); (try dsimp only); (try k_fold)))
  k_fill
  intro X
  k_with "pyIter ref" => (k_of "lap" => k_state (fun pre (left : Int) coins => coins.length ≤ 90 + pre.length) "left" "coins")
  k_with "pyIter ref" => (k_of "cell" => k_state (fun pre coins => coins.length ≤ 90) "coins")
  refine wpAny_call ?_
  k_dflt ktr_enter
  rename Below _ _ _ _ => B9
  k_lift B9
  k_steps
  all_goals (
    rename News _ _ _ _ => N9
    refine ret _ _ _ _ _ ?I (by assumption) (newsSub1 N9 ?h) (by assumption)
    case h => intro p hp; simp [hp]
    case I =>
      refine ⟨_, IntsAre.reverse (by l_ints), ?_⟩
      simp only [List.length_reverse, List.length_append, List.length_cons, List.length_nil]
      first | omega | ((simp only [rangeKs_length] at *); omega))
end
section
section
open PySem.W
variable {prog : Program} {w : World} {A : Around} {E : Value → Shared → Prop} {s : Shared} {h₀ h h' : Heap} {L : Addr} {m : Str → Option Value} {nx : List (Addr × Obj)} {bs : List Addr} {env : Env}
theorem frBut (F : Fr h₀ L h m) (hk : ∀ b o, b ∉ bs → h.get? b = some o → h'.get? b = some o) (hL : L ∉ bs) (hb : ∀ b ∈ bs, h₀.get? b = none) : Fr h₀ L h' m :=
  ⟨F.ns.at' fun o e => hk _ o hL e, fun b o e => hk b o (fun hm => by rw [hb b hm] at e; cases e) (F.keep b o e), F.above⟩
theorem newsBut (N : News h₀ L h nx) (hk : ∀ b o, b ∉ bs → h.get? b = some o → h'.get? b = some o) (hn : ∀ p ∈ nx, p.1 ∉ bs) : News h₀ L h' nx :=
  fun p hp => ⟨hk _ _ (hn p hp) (N p hp).1, (N p hp).2⟩
theorem ownOf (h : Heap) : ∀ {fp : List Addr}, (∀ b ∈ fp, ∃ o, h.get? b = some o) → ∃ own : List (Addr × Obj), (∀ p ∈ own, p.1 ∈ fp ∧ h.get? p.1 = some p.2) ∧ ∀ b ∈ fp, ∃ o, (b, o) ∈ own
  | [], _ => ⟨[], fun _ hp => (nomatch hp), fun _ hb => (nomatch hb)⟩
  | b :: r, hl => by
    obtain ⟨own, h1, h2⟩ := ownOf h (fp := r) fun c hc => hl c (.tail _ hc)
    obtain ⟨o, ho⟩ := hl b (.head _)
    refine ⟨(b, o) :: own, fun p hp => ?_, fun c hc => ?_⟩
    · rcases List.mem_cons.mp hp with rfl | hp
      · exact ⟨.head _, ho⟩
      · exact ⟨.tail _ (h1 p hp).1, (h1 p hp).2⟩
    · rcases List.mem_cons.mp hc with rfl | hc
      · exact ⟨o, .head _⟩
      · obtain ⟨o', ho'⟩ := h2 c hc
        exact ⟨o', .tail _ ho'⟩

/-- the end of an element: the state, the frame, the ledger; what is new lies above what the loop owns -/
def EltEnd (h₀ : Heap) (L : Addr) (m : Str → Option Value) (Wr : List Addr) (own nx : List (Addr × Obj)) (J : List (Addr × Obj) → Prop) (s₁ s₂ : Shared) : Prop :=
  ∃ h' tk nx', s₂ = { s₁ with heap := h', toks := tk } ∧ Fr h₀ L h' m ∧ News h₀ L h' (own ++ nx') ∧ (∀ p ∈ nx', p ∈ nx ∨ p.1 ∈ Wr ∨ ∀ q ∈ own, q.1 < p.1) ∧ J nx'

theorem comp_core {elt iter : Expr} {x : Str} {px : Pos} {scope : Scope} {cl : List (Str × Addr)} {pos : Pos} {I : Addr} {fp wr Wr : List Addr} {n : Nat} {P : Nat → Value → Prop} {St : Nat → Heap → Prop} {news : List (Addr × Obj)} (J : Nat → List Value → List (Addr × Obj) → Prop)
    (hcell : ∀ y ∈ scope.names, y.2 ≠ .cell) (hkind : scope.kind = .function) (hx : scope.names.lookup x = some .local)
    (W : Walks prog w A I fp wr n P St) (hsz : n ≤ sizeLine) (hst : St 0 s.heap) (hlive : ∀ i h, St i h → ∀ b ∈ fp, ∃ o, h.get? b = some o)
    (hfpn : ∀ b ∈ fp, b ≠ env.locals ∧ h₀.get? b = none ∧ b ∉ Wr) (hwr : ∀ p ∈ news, p.1 ∉ wr)
    (hWr : ∀ b ∈ Wr, b < s.heap.objs.size)
    (F : Fr h₀ env.locals s.heap m) (N : News h₀ env.locals s.heap news) (hj : J 0 [] news)
    (step : ∀ i v ys nx h tk C mC own E', i < n → P i v → J i ys nx → Fr h₀ env.locals h m → News h₀ env.locals h (own ++ nx) → (∀ p ∈ own, p.1 ∉ Wr) → h.Ns C mC → mC x = some v →
      wpAny (model prog w) A (eval elt (compEnvC scope cl C env)) (fun y s₃ => EltEnd h₀ env.locals m Wr own nx (J (i + 1) (ys ++ [y])) { s with heap := h, toks := tk } s₃) E' { s with heap := h, toks := tk })
    {RR : Value → Addr → Result → Shared → Prop}
    (done : ∀ D C ys nx h tk e mC, J n ys nx → Fr h₀ env.locals h m → News h₀ env.locals h ((D, listOf ys.toArray e) :: nx) → (∀ p ∈ nx, p.1 ≠ D) → (∀ p ∈ news, p.1 < D) → h.Ns C mC → C ≠ D → C ≠ env.locals → h₀.get? C = none → (∀ p ∈ nx, p.1 ≠ C) → RR (.ref D) C (.ok .next) { s with heap := h, toks := tk }) :
    wpAny (model prog w) A (newList []) (fun acc s₃ => wpAny (model prog w) A (newFunctionEnv scope env.globals cl [] env.qual none .none (some env)) (fun cenv s₄ =>
      codeAny (model prog w) A (.compStart (.ListComp elt [⟨.Name x px, iter, [], 0⟩] scope pos) 0 (.ref I) acc { cenv with scope := relabel scope env }) (RR acc cenv.locals) s₄) E s₃) E s := by
  refine wpAny_newObj_type (wpAny_newFunctionEnv hcell (by intro y hy; simp at hy) (fun h₁ hns₁ hsb₁ => ?_) hkind)
  dsimp only at hns₁ hsb₁ ⊢
  generalize hH2 : s.heap.push { cls := .type "list", dict := none, data := .seq ([] : List Value).toArray } = H2 at hns₁ hsb₁ ⊢
  have hC : H2.objs.size = s.heap.objs.size + 1 := by rw [← hH2, Heap.size_push]
  have hDC : s.heap.objs.size ≠ H2.objs.size := by rw [hC]; exact Nat.ne_of_lt (Nat.lt_succ_self _)
  have below : ∀ b, b < s.heap.objs.size → b ≠ H2.objs.size ∧ b ≠ s.heap.objs.size := fun b hb => ⟨by rw [hC]; exact Nat.ne_of_lt (Nat.lt_succ_of_lt hb), Nat.ne_of_lt hb⟩
  have old : ∀ b o, s.heap.get? b = some o → h₁.get? b = some o := fun b o e => hsb₁.extBut b o (below b (Heap.lt_size e)).1 (Heap.get?_push_of_some _ (hH2 ▸ Heap.get?_push_of_some _ e))
  have hacc : h₁.get? s.heap.objs.size = some (listOf #[] 0) := hsb₁.extBut _ _ hDC (Heap.get?_push_of_some _ (hH2 ▸ Heap.get?_push_size _ rfl))
  have hst₁ : St 0 h₁ := W.frame _ _ _ hst fun b _ o e => old b o e
  have fresh : ∀ a, s.heap.objs.size ≤ a → s.heap.get? a = none := fun a ha => by
    cases e : s.heap.get? a with
    | none => rfl
    | some o' => exact absurd (Heap.lt_size e) (Nat.not_lt.mpr ha)
  have fresh0 : ∀ a, s.heap.objs.size ≤ a → h₀.get? a = none := fun a ha => by
    cases e : h₀.get? a with
    | none => rfl
    | some o' => have h1 := fresh a ha; rw [F.keep _ _ e] at h1; cases h1
  have hLlt : env.locals < s.heap.objs.size := F.ns.lt
  have hfplt : ∀ b ∈ fp, b < s.heap.objs.size := fun b hb => by obtain ⟨o, ho⟩ := hlive _ _ hst b hb; exact Heap.lt_size ho
  generalize hD : s.heap.objs.size = D at *
  generalize hCC : H2.objs.size = C at *
  have hDf : D ∉ fp := fun hm => Nat.lt_irrefl _ (hfplt _ hm)
  have hCf : C ∉ fp := fun hm => by have := hfplt _ hm; rw [hC] at this; exact Nat.lt_irrefl _ (Nat.lt_of_succ_lt this)
  have hDw : D ∉ wr := fun h => hDf (W.sub _ h)
  have hCw : C ∉ wr := fun h => hCf (W.sub _ h)
  have hDW : D ∉ Wr := fun hm => Nat.lt_irrefl _ (hWr _ hm)
  have hCW : C ∉ Wr := fun hm => by have := hWr _ hm; rw [hC] at this; exact Nat.lt_irrefl _ (Nat.lt_of_succ_lt this)
  have hLD : env.locals ≠ D := Nat.ne_of_lt hLlt
  have hLC : env.locals ≠ C := by rw [hC]; exact Nat.ne_of_lt (Nat.lt_succ_of_lt hLlt)
  have hD0 : h₀.get? D = none := fresh0 _ (Nat.le_refl _)
  have hC0 : h₀.get? C = none := fresh0 _ (by rw [hC]; exact Nat.le_succ _)
  have hLw : env.locals ∉ wr := fun h => (hfpn _ (W.sub _ h)).1 rfl
  have loop : ∀ s₃ : Shared, s₃ = { s with heap := h₁, toks := s.toks + ([] : List (Str × Value)).length } →
      codeAny (model prog w) A (.compLoop (.ListComp elt [⟨.Name x px, iter, [], 0⟩] scope pos) 0 (.ref I) (.ref D) (compEnvC scope cl C env))
        (RR (.ref D) C) s₃ := by
    rintro s₃ rfl
    refine codeAny_compLoop_tests
      (fun k s' => ∃ i ys nx h' tk e mC, s' = { s with heap := h', toks := tk } ∧ i ≤ n ∧ k = n + 1 - i ∧ ys.length = i ∧ St i h' ∧ h'.get? D = some (listOf (List.toArray ys) e) ∧ h'.Ns C mC ∧ Fr h₀ env.locals h' m ∧ News h₀ env.locals h' nx ∧ J i ys nx ∧ (∀ p ∈ nx, p.1 ≠ D ∧ p.1 ≠ C ∧ p.1 ∉ wr)) ?_ (n + 1)
      ⟨0, [], news, h₁, _, 0, _, rfl, Nat.zero_le _, rfl, rfl, hst₁, hacc, hns₁, F.keeps old, N.grown old, hj, fun p hp => ⟨fun e => Nat.lt_irrefl _ (hD ▸ e ▸ Heap.lt_size (N p hp).1), fun e => ?_, hwr p hp⟩⟩
    rotate_left
    · have := Heap.lt_size (N p hp).1
      rw [e, hD, hC] at this
      exact Nat.lt_irrefl _ (Nat.lt_of_succ_lt this)
    rintro k s' ⟨i, ys, nx, H, tk, e, mC, rfl, hi, rfl, hyl, hst', hacc', hn', F', N', hJ, hoff⟩
    by_cases hlt : i < n
    · refine W.item i _ _ _ hlt hst' fun v h₂ tk₂ hPv hst₂ hk₂ => ?_
      refine wpAny_assign_Name (wpAny_storeName_local (lookup_relabel_local hx) (hn'.at' fun o e => hk₂ _ o hCw e) (fun h₃ hn₃ hs₃ => ?_) (by simp [compEnvC, relabel, hkind]))
      refine wpAny_tests_nil ?_
      simp only [if_true]
      have up : ∀ b o, b ∉ C :: wr → H.get? b = some o → h₃.get? b = some o := fun b o hb e => hs₃.extBut b o (fun e => hb (e ▸ .head _)) (hk₂ b o (fun h => hb (.tail _ h)) e)
      have hst₃ : St (i + 1) h₃ := W.frame _ _ _ hst₂ fun b hb o e => hs₃.extBut b o (fun h => hCf (by rw [show b = C from h] at hb; exact hb)) e
      have F₃ : Fr h₀ env.locals h₃ m := frBut F' up (fun hm => by rcases List.mem_cons.mp hm with h | h; exact hLC h; exact hLw h) fun b hb => by
        rcases List.mem_cons.mp hb with rfl | hb
        · exact hC0
        · exact (hfpn _ (W.sub _ hb)).2.1
      have N₃ : News h₀ env.locals h₃ nx := newsBut N' up fun p hp hm => by
        rcases List.mem_cons.mp hm with h | h
        · exact (hoff p hp).2.1 h
        · exact (hoff p hp).2.2 h
      have hacc₃ : h₃.get? D = some (listOf (List.toArray ys) e) := up D _ (fun hm => by rcases List.mem_cons.mp hm with h | h; exact hDC h; exact hDw h) hacc'
      obtain ⟨own, ho1, ho2⟩ := ownOf h₃ (hlive _ _ hst₃)
      obtain ⟨oC, esC, epC, hoC, rC⟩ := id hn₃
      have NO : News h₀ env.locals h₃ (((D, listOf (List.toArray ys) e) :: (C, oC) :: own) ++ nx) := by
        intro p hp
        rcases List.mem_append.mp hp with hp | hp
        · rcases List.mem_cons.mp hp with rfl | hp
          · exact ⟨hacc₃, Ne.symm hLD, hD0⟩
          · rcases List.mem_cons.mp hp with rfl | hp
            · exact ⟨hoC, Ne.symm hLC, hC0⟩
            · exact ⟨(ho1 p hp).2, (hfpn _ (ho1 p hp).1).1, (hfpn _ (ho1 p hp).1).2.1⟩
        · exact N₃ p hp
      have hOW : ∀ p ∈ (D, listOf (List.toArray ys) e) :: (C, oC) :: own, p.1 ∉ Wr := by
        intro p hp
        rcases List.mem_cons.mp hp with rfl | hp
        · exact hDW
        · rcases List.mem_cons.mp hp with rfl | hp
          · exact hCW
          · exact (hfpn _ (ho1 p hp).1).2.2
      refine wpAny_mono (step i v ys nx h₃ _ C _ _ _ hlt hPv hJ F₃ NO hOW hn₃ (by simp)) (fun y s₄ h₄ => ?_) fun _ _ e => e
      obtain ⟨h₄, tk₄, nx', rfl, F₄, N₄, hab, hJ'⟩ := h₄
      have hoff' : ∀ p ∈ nx', p.1 ≠ D ∧ p.1 ≠ C ∧ p.1 ∉ wr := by
        intro p hp
        rcases hab p hp with h | h | h
        · exact hoff p h
        · exact ⟨fun e => hDW (e ▸ h), fun e => hCW (e ▸ h), fun hm => (hfpn _ (W.sub _ hm)).2.2 h⟩
        · refine ⟨fun e => ?_, fun e => ?_, fun hm => ?_⟩
          · exact Nat.lt_irrefl _ (e ▸ h (D, _) (.head _))
          · exact Nat.lt_irrefl _ (e ▸ h (C, _) (.tail _ (.head _)))
          · obtain ⟨o, hm'⟩ := ho2 _ (W.sub _ hm)
            exact Nat.lt_irrefl _ (h (p.1, o) (.tail _ (.tail _ hm')))
      refine append_at (hsz := by simp; omega) (N₄ (D, _) (.head _)).1 fun h₅ hs₅ ho₅ => ?_
      refine ⟨n + 1 - (i + 1), by omega, i + 1, ys ++ [y], nx', h₅, tk₄, e + 1, _, rfl, hlt, rfl, by simp [hyl], ?_, by simpa using ho₅, ⟨oC, esC, epC, ?_, rC⟩, F₄.change hs₅ (Ne.symm hLD) hD0, ?_, hJ', hoff'⟩
      · refine W.frame _ _ _ hst₃ fun b hb o e => ?_
        obtain ⟨o', hm⟩ := ho2 b hb
        have e1 := (ho1 _ hm).2
        have e2 := (N₄ _ (List.mem_append.mpr (.inl (.tail _ (.tail _ hm))))).1
        rw [e] at e1
        cases e1
        exact (hs₅.2 b (fun h => hDf (h ▸ hb))).trans e2
      · exact (hs₅.2 C (Ne.symm hDC)).trans (N₄ (C, oC) (.tail _ (.head _))).1
      · exact fun p hp => ⟨(hs₅.2 p.1 (hoff' p hp).1).trans (N₄ p (List.mem_append.mpr (.inr hp))).1, (N₄ p (List.mem_append.mpr (.inr hp))).2⟩
    · have hin : i = n := by omega
      subst hin
      refine W.done _ _ _ hst' fun h₂ tk₂ hk₂ => ?_
      have F₂ : Fr h₀ env.locals h₂ m := frBut F' hk₂ hLw fun b hb => (hfpn _ (W.sub _ hb)).2.1
      refine done D C ys nx h₂ tk₂ e mC hJ F₂ ?_ (fun p hp => (hoff p hp).1) (fun p hp => by have := Heap.lt_size (N p hp).1; rwa [hD] at this) (hn'.at' fun o e => hk₂ _ o hCw e) (Ne.symm hDC) (Ne.symm hLC) hC0 fun p hp => (hoff p hp).2.1
      intro p hp
      rcases List.mem_cons.mp hp with rfl | hp
      · exact ⟨hk₂ D _ hDw hacc', Ne.symm hLD, hD0⟩
      · exact ⟨hk₂ _ _ (hoff p hp).2.2 (N' p hp).1, (N' p hp).2⟩
  exact codeAny_compStart_list (loop _ rfl) (W.self 0 _ _ _ hst₁ (loop _ rfl))
end
end
section
section
variable {prog : Program} {w : World} {A : Around} {E : Value → Shared → Prop} {s : Shared} {h₀ : Heap} {m : Str → Option Value} {news : List (Addr × Obj)} {env : Env}
def CompGo (prog : Program) (w : World) (A : Around) (E : Value → Shared → Prop) (env : Env) (elt iter : Expr) (x : Str) (px : Pos) (scope : Scope) (pos : Pos) (cl : List (Str × Addr)) (use : Option (Value → Sem Unit)) (Q : Value → Shared → Prop) (xv : Value) (s : Shared) : Prop :=
  wpAny (model prog w) A (pyIter xv) (fun it s₂ => wpAny (model prog w) A (newList []) (fun acc s₃ =>
      wpAny (model prog w) A (newFunctionEnv scope env.globals cl [] env.qual none .none (some env)) (fun cenv s₄ =>
        codeAny (model prog w) A (.compStart (.ListComp elt [⟨.Name x px, iter, [], 0⟩] scope pos) 0 it acc { cenv with scope := relabel scope env }) (compPost (model prog w) A E use Q acc cenv.locals) s₄) E s₃) E s₂) E s

theorem my_ListComp {elt iter : Expr} {x : Str} {px : Pos} {scope : Scope} {cl : List (Str × Addr)} {pos : Pos} {Q : Value → Shared → Prop}
    (hclos : closureFor scope env = pure cl) (hkind : scope.kind = .function) (hnames : ∀ y ∈ scope.names, y.2 = .local → scope.names.lookup y.1 = some .local) (hs : ∀ x, foldedSetIterable iter env x = pure x)
    (h : wpAny (model prog w) A (eval iter env) (fun xv s₁ => CompGo prog w A E env elt iter x px scope pos cl none Q xv s₁) E s) :
    wpAny (model prog w) A (eval (.ListComp elt [⟨.Name x px, iter, [], 0⟩] scope pos) env) Q E s := by
  rw [eval_ListComp]
  exact wpAny_comprehension_free (use := none) rfl hs hclos hkind hnames h

theorem my_Assign_ListComp {elt iter : Expr} {x y : Str} {px py : Pos} {scope : Scope} {cl : List (Str × Addr)} {pos spos : Pos} {Q : Flow → Shared → Prop}
    (hsw : swapsWith (.ListComp elt [⟨.Name x px, iter, [], 0⟩] scope pos) (some (.Name y py)) spos.line env = pure true)
    (hclos : closureFor scope env = pure cl) (hkind : scope.kind = .function) (hnames : ∀ y ∈ scope.names, y.2 = .local → scope.names.lookup y.1 = some .local) (hs : ∀ x, foldedSetIterable iter env x = pure x)
    (h : wpAny (model prog w) A (eval iter env) (fun xv s₁ => CompGo prog w A E env elt iter x px scope pos cl (some (assign (.Name y py) env)) (fun _ s' => Q .next s') xv s₁) E s) :
    wpAny (model prog w) A (exec (.Assign [.Name y py] (.ListComp elt [⟨.Name x px, iter, [], 0⟩] scope pos) spos) env) Q E s := by
  rw [exec_Assign_Name_used _ _ _ _ hsw]
  refine wpAny_bind (wpAny_standAt (wpAny_bind ?_))
  show wpAny _ A (do let _ ← comprehension (.ListComp elt [⟨.Name x px, iter, [], 0⟩] scope pos) scope env _ (newList []) false (eval iter env) (some (assign (.Name y py) env))) _ _ s
  exact wpAny_bind (wpAny_mono (wpAny_comprehension_free (use := some (assign (.Name y py) env)) (Q := fun _ s' => Q .next s') rfl hs hclos hkind hnames h) (fun _ s' hq => wpAny_pure (wpAny_pure hq)) fun _ _ e => e)

theorem compGo_range {elt iter : Expr} {x : Str} {px : Pos} {scope : Scope} {cl : List (Str × Addr)} {pos : Pos} {Q : Value → Shared → Prop} {r : Addr} {b : Int} {t u v : Tok} {n : Nat} (Wr : List Addr) (J : Nat → List Value → List (Addr × Obj) → Prop)
    (hr : IsRange s.heap r 0 b 1 t u v) (hsm : Builtin.Range.small 0 b 1 = true) (hn : Builtin.Range.rangeSize 0 b 1 = (n : Int)) (hsz : n ≤ sizeLine)
    (hh : A.handled = none) (hcell : ∀ y ∈ scope.names, y.2 ≠ .cell) (hkind : scope.kind = .function) (hx : scope.names.lookup x = some .local)
    (F : Fr h₀ env.locals s.heap m) (N : News h₀ env.locals s.heap news) (hWr : ∀ b ∈ Wr, ∃ o, (b, o) ∈ news) (hj : J 0 [] news)
    (step : ∀ i ys nx h tk C mC own E', i < n → J i ys nx → Fr h₀ env.locals h m → News h₀ env.locals h (own ++ nx) → (∀ p ∈ own, p.1 ∉ Wr) → h.Ns C mC →
      wpAny (model prog w) A (eval elt (compEnvC scope cl C env)) (fun y s₃ => EltEnd h₀ env.locals m Wr own nx (J (i + 1) (ys ++ [y])) { s with heap := h, toks := tk } s₃) E' { s with heap := h, toks := tk })
    (done : ∀ D ys nx h tk e, J n ys nx → Fr h₀ env.locals h m → News h₀ env.locals h ((D, listOf ys.toArray e) :: nx) → (∀ p ∈ nx, p.1 ≠ D) → (∀ p ∈ news, p.1 < D) → Q (.ref D) { s with heap := h, toks := tk }) :
    CompGo prog w A E env elt iter x px scope pos cl none Q (.ref r) s := by
  unfold CompGo
  refine wpAny_pyIter_range hr hsm ?_
  rw [hn]
  have hI : ∀ p ∈ news, p.1 ≠ s.heap.objs.size := fun p hp => Nat.ne_of_lt (Heap.lt_size (N p hp).1)
  refine comp_core (s := { s with heap := s.heap.push _ }) (m := m) (news := news) (Wr := Wr) (RR := fun acc C => compPost (model prog w) A E none Q acc C) J hcell hkind hx (Walks.range hh s.heap.objs.size 0 1 n) hsz ?_ ?_ ?_ ?_ ?_ (F.push _) (fun p hp => ⟨Heap.get?_push_of_some _ (N p hp).1, (N p hp).2⟩) hj ?_ ?_
  · show IsRangeIter _ _ _ _ _
    simp only [Int.natCast_zero, Int.zero_mul, Int.add_zero, Int.sub_zero]
    exact Heap.get?_push_size _ rfl
  · intro i h st b hb
    rw [List.mem_singleton.mp hb]
    exact ⟨_, st⟩
  · intro b hb
    rw [List.mem_singleton.mp hb]
    refine ⟨Nat.ne_of_gt F.ns.lt, none_at_size F, fun hm => ?_⟩
    obtain ⟨o, ho⟩ := hWr _ hm
    exact hI _ ho rfl
  · intro p hp hm
    exact hI p hp (List.mem_singleton.mp hm)
  · intro b hb
    obtain ⟨o, ho⟩ := hWr _ hb
    show b < (s.heap.push _).objs.size
    rw [Heap.size_push]
    exact Nat.lt_succ_of_lt (Heap.lt_size (N _ ho).1)
  · intro i v ys nx h tk C mC own E' hi _ hJ F' N' ho hC _
    exact step i ys nx h tk C mC own E' hi hJ F' N' ho hC
  · intro D C ys nx h tk e mC hJ F' N' hD hlt hC hCD hCL hC0 hCn
    exact ⟨mC, hC, fun h' hs' => done D ys nx h' tk e hJ (F'.change hs' hCL hC0) (fun p hp => ⟨(hs'.2 p.1 (by rcases List.mem_cons.mp hp with rfl | hp; exact Ne.symm hCD; exact hCn p hp)).trans (N' p hp).1, (N' p hp).2⟩) hD hlt⟩

theorem compGo_list {elt iter : Expr} {x y : Str} {px py : Pos} {scope : Scope} {cl : List (Str × Addr)} {pos : Pos} {Q : Value → Shared → Prop} {l : Addr} {vs : List Value} {e₀ : Nat} (Wr : List Addr) (J : Nat → List Value → List (Addr × Obj) → Prop)
    (hl : (l, listOf vs.toArray e₀) ∈ news) (hlW : l ∉ Wr) (hsz : vs.length ≤ sizeLine)
    (hh : A.handled = none) (hcell : ∀ y ∈ scope.names, y.2 ≠ .cell) (hkind : scope.kind = .function) (hx : scope.names.lookup x = some .local)
    (hy : env.kindOf y = some .local) (hp : (env.scope.kind == .class || (env.scope.kind == .module && env.locals != env.globals)) = false)
    (F : Fr h₀ env.locals s.heap m) (N : News h₀ env.locals s.heap news) (hWr : ∀ b ∈ Wr, ∃ o, (b, o) ∈ news) (hj : J 0 [] news)
    (step : ∀ i v ys nx h tk C mC own E', vs[i]? = some v → J i ys nx → Fr h₀ env.locals h m → News h₀ env.locals h (own ++ nx) → (∀ p ∈ own, p.1 ∉ Wr) → h.Ns C mC → mC x = some v →
      wpAny (model prog w) A (eval elt (compEnvC scope cl C env)) (fun y s₃ => EltEnd h₀ env.locals m Wr own nx (J (i + 1) (ys ++ [y])) { s with heap := h, toks := tk } s₃) E' { s with heap := h, toks := tk })
    (done : ∀ D ys nx h tk e, J vs.length ys nx → Fr h₀ env.locals h (fun z => if z = y then some (.ref D) else m z) → News h₀ env.locals h ((D, listOf ys.toArray e) :: nx) → (∀ p ∈ nx, p.1 ≠ D) → (∀ p ∈ news, p.1 < D) → Q .none { s with heap := h, toks := tk }) :
    CompGo prog w A E env elt iter x px scope pos cl (some (assign (.Name y py) env)) Q (.ref l) s := by
  unfold CompGo
  have hls : s.heap.IsList l vs.toArray := ⟨_, (N _ hl).1, rfl, e₀, rfl⟩
  refine wpAny_pyIter_list hls ?_
  have hI : ∀ p ∈ news, p.1 ≠ s.heap.objs.size := fun p hp => Nat.ne_of_lt (Heap.lt_size (N p hp).1)
  have hne : l ≠ s.heap.objs.size := hI _ hl
  have W := Walks.list (prog := prog) (w := w) hh s.heap.objs.size l hne vs.toArray
  rw [List.size_toArray] at W
  refine comp_core (s := { s with heap := s.heap.push _ }) (m := m) (news := news) (Wr := Wr) (RR := fun acc C => compPost (model prog w) A E (some (assign (.Name y py) env)) Q acc C) J hcell hkind hx W hsz ?_ ?_ ?_ ?_ ?_ (F.push _) (fun p hp => ⟨Heap.get?_push_of_some _ (N p hp).1, (N p hp).2⟩) hj ?_ ?_
  · exact ⟨⟨_, Heap.get?_push_size _ rfl, rfl, rfl⟩, hls.push _⟩
  · intro i h st b hb
    rcases List.mem_cons.mp hb with rfl | hb
    · obtain ⟨⟨o, ho, _⟩, _⟩ := st; exact ⟨o, ho⟩
    · rw [List.mem_singleton.mp hb]
      obtain ⟨_, ⟨o, ho, _⟩⟩ := st; exact ⟨o, ho⟩
  · intro b hb
    rcases List.mem_cons.mp hb with rfl | hb
    · refine ⟨Nat.ne_of_gt F.ns.lt, none_at_size F, fun hm => ?_⟩
      obtain ⟨o, ho⟩ := hWr _ hm
      exact hI _ ho rfl
    · rw [List.mem_singleton.mp hb]
      exact ⟨(N _ hl).2.1, (N _ hl).2.2, hlW⟩
  · intro p hp hm
    exact hI p hp (List.mem_singleton.mp hm)
  · intro b hb
    obtain ⟨o, ho⟩ := hWr _ hb
    show b < (s.heap.push _).objs.size
    rw [Heap.size_push]
    exact Nat.lt_succ_of_lt (Heap.lt_size (N _ ho).1)
  · intro i v ys nx h tk C mC own E' hi hv hJ F' N' ho hC hm
    exact step i v ys nx h tk C mC own E' (by simpa using hv) hJ F' N' ho hC hm
  · intro D C ys nx h tk e mC hJ F' N' hD hlt hC hCD hCL hC0 hCn
    show wpAny _ A (assign (.Name y py) env (.ref D)) _ _ _
    refine wpAny_assign_Name (wpAny_storeName_local hy F'.ns (fun h₂ hn₂ hs₂ => ?_) hp)
    refine ⟨mC, hC.sameBut hs₂ hCL, fun h₃ hs₃ => ?_⟩
    refine done D ys nx h₃ _ e hJ ((F'.set hn₂ hs₂).change hs₃ hCL hC0) (fun p hp => ⟨(hs₃.2 p.1 (by rcases List.mem_cons.mp hp with rfl | hp; exact Ne.symm hCD; exact hCn p hp)).trans ((N'.set hs₂) p hp).1, (N' p hp).2⟩) hD hlt
end
end
section
inductive Wd where
  | leaf | conj | disj | arrow | neg
def Wd.str : Wd → PySem.Str
  | .leaf => PySem.Str.ofString "leaf"
  | .conj => PySem.Str.ofString "and"
  | .disj => PySem.Str.ofString "or"
  | .arrow => PySem.Str.ofString "then"
  | .neg => PySem.Str.ofString "not"
/-- how many parts a part of that word may hold -/
def Wd.arity : Wd → Nat → Bool
  | .leaf, n => n == 0
  | .conj, n => n ≤ 3
  | .disj, n => 1 ≤ n && n ≤ 3
  | .arrow, n => n == 2
  | .neg, n => n == 1

inductive Tr where
  | mk (num : Nat) (w : Wd) (kids : List Tr)
def Tr.num : Tr → Nat | .mk n _ _ => n
def Tr.wd : Tr → Wd | .mk _ w _ => w
def Tr.kids : Tr → List Tr | .mk _ _ ks => ks
mutual
def Tr.size : Tr → Nat
  | .mk _ _ ks => Tr.sizes ks + 1
def Tr.sizes : List Tr → Nat
  | [] => 0
  | t :: r => t.size + Tr.sizes r
end
mutual
def Tr.dat : Tr → Dat
  | .mk n w ks => .tuple [.int (n : Int), .str w.str, .list (Tr.dats ks)]
def Tr.dats : List Tr → List Dat
  | [] => []
  | t :: r => t.dat :: Tr.dats r
end
mutual
/-- numbered from n on, a part ahead of those that it holds -/
def Tr.Pre : Nat → Tr → Prop
  | n, .mk k _ ks => k = n ∧ Tr.Pres (n + 1) ks
def Tr.Pres : Nat → List Tr → Prop
  | _, [] => True
  | n, t :: r => t.Pre n ∧ Tr.Pres (n + t.size) r
end
mutual
/-- the words' arities, the depth -/
def Tr.Ok : Nat → Tr → Prop
  | d, .mk _ w ks => w.arity ks.length = true ∧ (ks = [] ∨ 0 < d) ∧ Tr.Oks (d - 1) ks
def Tr.Oks : Nat → List Tr → Prop
  | _, [] => True
  | d, t :: r => t.Ok d ∧ Tr.Oks d r
end
theorem Tr.sizes_append : ∀ (a b : List Tr), Tr.sizes (a ++ b) = Tr.sizes a + Tr.sizes b
  | [], b => by simp [Tr.sizes]
  | t :: r, b => by simp [Tr.sizes, Tr.sizes_append r b]; omega
theorem Tr.dats_append : ∀ (a b : List Tr), Tr.dats (a ++ b) = Tr.dats a ++ Tr.dats b
  | [], b => by simp [Tr.dats]
  | t :: r, b => by simp [Tr.dats, Tr.dats_append r b]
theorem Tr.dats_length : ∀ (a : List Tr), (Tr.dats a).length = a.length
  | [] => rfl
  | t :: r => by simp [Tr.dats, Tr.dats_length r]
theorem Tr.Pres_snoc : ∀ (n : Nat) (a : List Tr) (t : Tr), Tr.Pres n a → t.Pre (n + Tr.sizes a) → Tr.Pres n (a ++ [t])
  | n, [], t, _, h => by simpa [Tr.Pres, Tr.sizes] using h
  | n, u :: r, t, h, k => by
    simp only [Tr.Pres, Tr.sizes, List.cons_append] at h k ⊢
    exact ⟨h.1, Tr.Pres_snoc _ r t h.2 (by rw [Nat.add_assoc]; exact k)⟩
theorem Tr.Oks_snoc : ∀ (d : Nat) (a : List Tr) (t : Tr), Tr.Oks d a → t.Ok d → Tr.Oks d (a ++ [t])
  | d, [], t, _, h => by simpa [Tr.Oks] using h
  | d, u :: r, t, h, k => by
    simp only [Tr.Oks, List.cons_append] at h ⊢
    exact ⟨h.1, Tr.Oks_snoc d r t h.2 k⟩
end
section
theorem coin_use (w : World) {mean : ExcName → Option Value} {mg mb : Str → Option Value} 
  {dp un : Nat} {gd : Option (List Code)} {cn : Str} {cs : Scope} {a : Addr} {ccd : Value} {cl : List (Str × Addr)} {outer : List Env} {A₀ : Around} {base h₀ : Heap} {L : Addr} {m : Str → Option Value} {s : Shared}
  {c : Addr} {ws : List Value} {e : Nat} (pre : List (Addr × Obj)) {post : List (Addr × Obj)} {sides : Int} {tk : Tok} {Q E : Value → Shared → Prop}
  (B : Below A₀ base outer h₀) (F : Fr h₀ L s.heap m) (X : (hd.heap_39 w.params).In h₀) (N : News h₀ L s.heap (pre ++ (c, listOf ws.toArray e) :: post))
  (T : Top hd.view_39 (looseW hd.view_39 []) mean mg mb h₀) (hk : cs.kind = .function) (I : Coins ws) (hs : 0 < sides) (hs2 : sides < 100) (hpre : ∀ p ∈ pre, p.1 ≠ c) (hpost : ∀ p ∈ post, p.1 ≠ c)
  (hd : dp ≤ 400) (hu : un ≤ 1000)
  (ret : ∀ r t ws' e' h' tk', 0 ≤ r → r < sides → Coins ws' → Fr h₀ L h' m → News h₀ L h' (pre ++ (c, listOf ws'.toArray e') :: post) → Q (.int r t) { s with heap := h', toks := tk' }) :
   wpAny (model PySem.Challenge.rw_sa0140_01.row.prog w) (ktrTop dp un gd cn cs L a ccd cl outer) (call (.ref 75) [.ref c, .int sides tk]) Q E s := by
  have perm : ∀ (q : Addr × Obj) (p : Addr × Obj), p ∈ q :: (pre ++ post) ↔ p ∈ pre ++ q :: post := fun q p => by
    simp only [List.mem_append, List.mem_cons]
    constructor <;> (rintro (h | h | h) <;> simp [h])
  refine coin_ok w mean mg mb dp un gd cn cs a ccd cl outer A₀ base h₀ L m s c ws e (pre ++ post) sides tk Q E B F X (newsSub N fun p hp => (perm _ p).mp hp) T hk I hs hs2 ?_ hd hu fun r t ws' e' h' tk' h0 h1 hc F' N' => ret r t ws' e' h' tk' h0 h1 hc F' (newsSub N' fun p hp => (perm _ p).mpr hp)
  intro p hp
  rcases List.mem_append.mp hp with hp | hp
  · exact hpre p hp
  · exact hpost p hp
def DrawnSpec (w : World) (mean : ExcName → Option Value) (mg mb : Str → Option Value) (d : Nat) : Prop := ∀ 
  (dp un : Nat) (gd : Option (List Code)) (cn : Str) (cs : Scope) (a : Addr) (ccd : Value) (cl : List (Str × Addr)) (outer : List Env) (A₀ : Around) (base h₀ : Heap) (L : Addr) (m : Str → Option Value) (s : Shared)
  (c k : Addr) (ws : List Value) (e e2 n : Nat) (ni di : Int) (rest : List (Addr × Obj)) (tn td : Tok) (Q E : Value → Shared → Prop)
  (_ : Below A₀ base outer h₀) (_ : Fr h₀ L s.heap m) (_ : (hd.heap_39 w.params).In h₀) (_ : News h₀ L s.heap ((c, listOf ws.toArray e) :: (k, listOf [Value.int ni tn].toArray e2) :: rest))
  (_ : Top hd.view_39 (looseW hd.view_39 []) mean mg mb h₀) (_ : cs.kind = .function) (_ : Coins ws) (_ : ni = (n : Int)) (_ : di = (d : Int)) (_ : @Ne Nat c k) (_ : ∀ p ∈ rest, p.1 ≠ c) (_ : ∀ p ∈ rest, p.1 ≠ k)
  (_ : dp + d ≤ 350) (_ : un + 8 * d ≤ 500)
  (_ : ∀ v (t : Tr) ws' e' e2' tn' nj tl h' tk', Tr.Pre n t → Tr.Ok d t → nj = ((n + t.size : Nat) : Int) → Coins ws' → DatIn tl v t.dat → (∀ p ∈ tl, @LT.lt Nat _ c p.1 ∧ @LT.lt Nat _ k p.1 ∧ ∀ q ∈ rest, q.1 < p.1) → Fr h₀ L h' m → News h₀ L h' ((c, listOf ws'.toArray e') :: (k, listOf [Value.int nj tn'].toArray e2') :: (tl ++ rest)) → Q v { s with heap := h', toks := tk' }),
   wpAny (model PySem.Challenge.rw_sa0140_01.row.prog w) (ktrTop dp un gd cn cs L a ccd cl outer) (call (.ref 80) [.ref c, .ref k, .int di td]) Q E s

structure DrawnOk (w : World) (mean : ExcName → Option Value) (mg mb : Str → Option Value) (d : Nat) : Prop where
  out : DrawnSpec w mean mg mb d

theorem drawn_use {w : World} {mean : ExcName → Option Value} {mg mb : Str → Option Value} {d : Nat} (D : DrawnOk w mean mg mb d)
  {dp un : Nat} {gd : Option (List Code)} {cn : Str} {cs : Scope} {a : Addr} {ccd : Value} {cl : List (Str × Addr)} {outer : List Env} {A₀ : Around} {base h₀ : Heap} {L : Addr} {m : Str → Option Value} {s : Shared}
  {c k : Addr} {ws : List Value} {e e2 n : Nat} {ni di : Int} (pre : List (Addr × Obj)) {post : List (Addr × Obj)} {tn td : Tok} {Q E : Value → Shared → Prop}
  (B : Below A₀ base outer h₀) (F : Fr h₀ L s.heap m) (X : (hd.heap_39 w.params).In h₀) (N : News h₀ L s.heap (pre ++ ((c, listOf ws.toArray e) :: (k, listOf [Value.int ni tn].toArray e2) :: post)))
  (T : Top hd.view_39 (looseW hd.view_39 []) mean mg mb h₀) (hk : cs.kind = .function) (I : Coins ws) (hn : ni = (n : Int)) (hdi : di = (d : Int)) (hck : @Ne Nat c k) (h1 : ∀ p ∈ pre, p.1 ≠ c) (h2 : ∀ p ∈ pre, p.1 ≠ k) (h3 : ∀ p ∈ post, p.1 ≠ c) (h4 : ∀ p ∈ post, p.1 ≠ k)
  (hd : dp + d ≤ 350) (hu : un + 8 * d ≤ 500)
  (ret : ∀ v (t : Tr) ws' e' e2' tn' nj tl h' tk', Tr.Pre n t → Tr.Ok d t → nj = ((n + t.size : Nat) : Int) → Coins ws' → DatIn tl v t.dat → (∀ p ∈ tl, @LT.lt Nat _ c p.1 ∧ @LT.lt Nat _ k p.1 ∧ (∀ q ∈ pre, q.1 < p.1) ∧ ∀ q ∈ post, q.1 < p.1) → Fr h₀ L h' m → News h₀ L h' (pre ++ ((c, listOf ws'.toArray e') :: (k, listOf [Value.int nj tn'].toArray e2') :: (tl ++ post))) → Q v { s with heap := h', toks := tk' }) :
   wpAny (model PySem.Challenge.rw_sa0140_01.row.prog w) (ktrTop dp un gd cn cs L a ccd cl outer) (call (.ref 80) [.ref c, .ref k, .int di td]) Q E s := by
  refine D.out dp un gd cn cs a ccd cl outer A₀ base h₀ L m s c k ws e e2 n ni di (pre ++ post) tn td Q E B F X (newsSub N fun p hp => ?_) T hk I hn hdi hck ?_ ?_ hd hu fun v t ws' e' e2' tn' nj tl h' tk' a1 a2 a3 a4 a5 a6 F' N' => ret v t ws' e' e2' tn' nj tl h' tk' a1 a2 a3 a4 a5 (fun p hp => ⟨(a6 p hp).1, (a6 p hp).2.1, fun q hq => (a6 p hp).2.2 q (List.mem_append.mpr (.inl hq)), fun q hq => (a6 p hp).2.2 q (List.mem_append.mpr (.inr hq))⟩) F' (newsSub N' fun p hp => ?_)
  · simp only [List.mem_append, List.mem_cons] at hp ⊢
    rcases hp with h | h | h | h <;> simp [h]
  · intro p hp
    rcases List.mem_append.mp hp with hp | hp
    · exact h1 p hp
    · exact h3 p hp
  · intro p hp
    rcases List.mem_append.mp hp with hp | hp
    · exact h2 p hp
    · exact h4 p hp
  · simp only [List.mem_append, List.mem_cons] at hp ⊢
    rcases hp with h | h | h | h | h <;> simp [h]

/-- the parts drawn so far -/
def DJ (q1 q2 q3 : Addr × Obj) (c k : Addr) (rest : List (Addr × Obj)) (n d : Nat) (i : Nat) (ys : List Value) (nx : List (Addr × Obj)) : Prop :=
  ∃ ts ws' e' e2' tn' nj tl, nx = q1 :: q2 :: q3 :: (c, listOf (List.toArray ws') e') :: (k, listOf [Value.int nj tn'].toArray e2') :: (tl ++ rest) ∧ List.length ts = i ∧ nj = ((n + 1 + Tr.sizes ts : Nat) : Int) ∧ Tr.Pres (n + 1) ts ∧ Tr.Oks d ts ∧ Coins ws' ∧ DatAll tl ys (Tr.dats ts) ∧
    (∀ p ∈ tl, @LT.lt Nat _ c p.1 ∧ @LT.lt Nat _ k p.1 ∧ ∀ q ∈ rest, q.1 < p.1)
theorem newsTail {h₀ h : Heap} {L : Addr} {q : Addr × Obj} {l : List (Addr × Obj)} (N : News h₀ L h (q :: l)) : News h₀ L h l := fun p hp => N p (.tail _ hp)
theorem newsMove {h₀ h : Heap} {L : Addr} {a b : List (Addr × Obj)} (N : News h₀ L h (a ++ b)) : News h₀ L h (b ++ a) := fun p hp => N p ((List.mem_append.mp hp).elim (fun x => List.mem_append.mpr (.inr x)) fun x => List.mem_append.mpr (.inl x))

theorem dj_next {q1 q2 q3 : Addr × Obj} {c k : Addr} {rest own tl tl' : List (Addr × Obj)} {n d i : Nat} {ys : List Value} {ts : List Tr} {ws ws' : List Value} {e e' e2 e2' : Nat} {tn tn' : Tok} {ni nj : Int} {v : Value} {t : Tr} {h₀ h' : Heap} {L : Addr} {m : Str → Option Value} {s : Shared} {tk' : Nat}
    (hi : ts.length = i) (hp : Tr.Pres (n + 1) ts) (ho : Tr.Oks d ts) (hD : DatAll tl ys (Tr.dats ts)) (hab : ∀ p ∈ tl, @LT.lt Nat _ c p.1 ∧ @LT.lt Nat _ k p.1 ∧ ∀ q ∈ rest, q.1 < p.1)
    (a1 : Tr.Pre (n + 1 + Tr.sizes ts) t) (a2 : Tr.Ok d t) (a3 : nj = ((n + 1 + Tr.sizes ts + t.size : Nat) : Int)) (a4 : Coins ws') (a5 : DatIn tl' v t.dat)
    (a6 : ∀ p ∈ tl', @LT.lt Nat _ c p.1 ∧ @LT.lt Nat _ k p.1 ∧ (∀ q ∈ [q1, q2, q3], q.1 < p.1) ∧ ∀ q ∈ tl ++ rest ++ own, q.1 < p.1) (F : Fr h₀ L h' m)
    (N : News h₀ L h' ([q1, q2, q3] ++ ((c, listOf ws'.toArray e') :: (k, listOf [Value.int nj tn'].toArray e2') :: (tl' ++ (tl ++ rest ++ own))))) :
    EltEnd h₀ L m [c, k] own (q1 :: q2 :: q3 :: (c, listOf (List.toArray ws) e) :: (k, listOf [Value.int ni tn].toArray e2) :: (tl ++ rest)) (DJ q1 q2 q3 c k rest n d (i + 1) (ys ++ [v])) s { s with heap := h', toks := tk' } := by
  refine ⟨h', tk', q1 :: q2 :: q3 :: (c, listOf (List.toArray ws') e') :: (k, listOf [Value.int nj tn'].toArray e2') :: ((tl' ++ tl) ++ rest), rfl, F, ?_, ?_, ?_⟩
  · refine newsSub N fun p hp => ?_
    simp only [List.mem_append, List.mem_cons, List.not_mem_nil, or_false] at hp ⊢
    rcases hp with h | h | h | h | h | h | (h | h) | h <;> simp [h]
  · intro p hp
    simp only [List.mem_append, List.mem_cons] at hp ⊢
    rcases hp with h | h | h | h | h | (h | h) | h
    · simp [h]
    · simp [h]
    · simp [h]
    · simp [h]
    · simp [h]
    · exact .inr (.inr fun q hq => (a6 p h).2.2.2 q (List.mem_append.mpr (.inr hq)))
    · simp [h]
    · simp [h]
  · refine ⟨ts ++ [t], ws', e', e2', tn', nj, tl' ++ tl, rfl, by simp [hi], ?_, Tr.Pres_snoc _ _ _ hp a1, Tr.Oks_snoc _ _ _ ho a2, a4, ?_, ?_⟩
    · rw [a3, Tr.sizes_append]; simp [Tr.sizes]; omega
    · rw [Tr.dats_append]
      exact (DatAll.mono (fun p hp => List.mem_append.mpr (.inr hp)) hD).append (DatAll.one (DatIn.mono (fun p hp => List.mem_append.mpr (.inl hp)) a5))
    · intro p hp
      rcases List.mem_append.mp hp with hp | hp
      · exact ⟨(a6 p hp).1, (a6 p hp).2.1, fun q hq => (a6 p hp).2.2.2 q (by simp [hq])⟩
      · exact hab p hp
section
variable {h₀ h : Heap} {L c k D D' : Addr} {p1 p2 q1 q2 q3 a b : Addr × Obj} {tl rest : List (Addr × Obj)}
theorem drawn_fin (N : News h₀ L h (p1 :: p2 :: q1 :: q2 :: q3 :: a :: b :: (tl ++ rest))) : News h₀ L h (a :: b :: ((p1 :: p2 :: tl) ++ rest)) :=
  newsSub N fun p hp => by
    simp only [List.mem_cons, List.mem_append] at hp ⊢
    rcases hp with h | h | (h | h | h) | h <;> simp [h]
theorem drawn_fin0 (N : News h₀ L h (p1 :: p2 :: q1 :: q2 :: q3 :: a :: b :: rest)) : News h₀ L h (a :: b :: ([p1, p2] ++ rest)) :=
  newsSub N fun p hp => by
    simp only [List.mem_cons, List.mem_append, List.not_mem_nil, or_false] at hp ⊢
    rcases hp with h | h | (h | h) | h <;> simp [h]
theorem drawn_dat {n : Nat} {tn tw : Tok} {w : Wd} {ts : List Tr} {ys : List Value} {e e' : Nat} (hd : DatAll tl ys (Tr.dats ts)) :
    DatIn ((D', ({ cls := .type "tuple", data := .seq (List.toArray [Value.int (n : Int) tn, Value.str w.str tw, Value.ref D]) e } : Obj)) :: (D, listOf (List.toArray ys) e') :: tl) (.ref D') (Tr.dat (.mk n w ts)) := by
  rw [Tr.dat]
  exact .tuple (.head _) (.cons (.int _ _) (.cons (.str _ _) (.cons (.list (.tail _ (.head _)) (DatAll.mono (fun p hp => .tail _ (.tail _ hp)) hd)) .nil)))
theorem drawn_abv {o o' : Obj} (h1 : @LT.lt Nat _ c D) (h2 : @LT.lt Nat _ k D) (h3 : ∀ q ∈ rest, q.1 < D) (h4 : @LT.lt Nat _ D D') (hab : ∀ p ∈ tl, @LT.lt Nat _ c p.1 ∧ @LT.lt Nat _ k p.1 ∧ ∀ q ∈ rest, q.1 < p.1) :
    ∀ p ∈ (D', o) :: (D, o') :: tl, @LT.lt Nat _ c p.1 ∧ @LT.lt Nat _ k p.1 ∧ ∀ q ∈ rest, q.1 < p.1 := by
  intro p hp
  rcases List.mem_cons.mp hp with rfl | hp
  · exact ⟨Nat.lt_trans h1 h4, Nat.lt_trans h2 h4, fun q hq => Nat.lt_trans (h3 q hq) h4⟩
  · rcases List.mem_cons.mp hp with rfl | hp
    · exact ⟨h1, h2, h3⟩
    · exact hab p hp
theorem allLt_mem {d : Addr} : ∀ {l : List (Addr × Obj)}, AllLt d l → ∀ p ∈ l, p.1 < d
  | [], _, _, hp => (nomatch hp)
  | q :: r, h, p, hp => by
    rcases List.mem_cons.mp hp with rfl | hp
    · exact h.1
    · exact allLt_mem h.2 p hp
end
end
section
section
variable {C : Prop} {q1 q2 q3 : Addr × Obj} {c k D : Addr} {rest own nx news : List (Addr × Obj)} {n d i : Nat} {ys : List Value} {g h h' : Heap} {L : Addr} {m : Str → Option Value}
/-- what a turn of the comprehension of _law_drawn knows -/
def DK (c k : Addr) (rest tl : List (Addr × Obj)) (n d i : Nat) (ys : List Value) (ts : List Tr) : Prop :=
  List.length ts = i ∧ Tr.Pres (n + 1) ts ∧ Tr.Oks d ts ∧ DatAll tl ys (Tr.dats ts) ∧ ∀ p ∈ tl, @LT.lt Nat _ c p.1 ∧ @LT.lt Nat _ k p.1 ∧ ∀ q ∈ rest, q.1 < p.1
theorem dj_elim (hJ : DJ q1 q2 q3 c k rest n d i ys nx) (N : News g L h (own ++ nx)) (hoc : ∀ p ∈ rest, p.1 ≠ c) (hok : ∀ p ∈ rest, p.1 ≠ k) (ho : ∀ p ∈ own, p.1 ∉ [c, k])
    (kk : ∀ (ts : List Tr) (ws' : List Value) (e' e2' : Nat) (tn' : Tok) (nj : Int) (tl : List (Addr × Obj)), nx = q1 :: q2 :: q3 :: (c, listOf (List.toArray ws') e') :: (k, listOf [Value.int nj tn'].toArray e2') :: (tl ++ rest) →
      News g L h (q1 :: q2 :: q3 :: (c, listOf (List.toArray ws') e') :: (k, listOf [Value.int nj tn'].toArray e2') :: (tl ++ rest ++ own)) → Coins ws' → nj = ((n + 1 + Tr.sizes ts : Nat) : Int) → Hid (DK c k rest tl n d i ys ts) →
      Hid (∀ p ∈ tl ++ rest ++ own, p.1 ≠ c) → Hid (∀ p ∈ tl ++ rest ++ own, p.1 ≠ k) → C) : C := by
  obtain ⟨ts, ws', e', e2', tn', nj, tl, rfl, hlen, hnj, hpres, hoks, hcoin, hdats, hab⟩ := hJ
  have N7 := newsMove N
  simp only [List.cons_append] at N7
  refine kk ts ws' e' e2' tn' nj tl rfl N7 hcoin hnj ⟨⟨hlen, hpres, hoks, hdats, hab⟩⟩ ⟨?_⟩ ⟨?_⟩
  · intro p hp
    rcases List.mem_append.mp hp with hp | hp
    · rcases List.mem_append.mp hp with hp | hp
      · exact Nat.ne_of_gt (hab p hp).1
      · exact hoc p hp
    · exact fun e => ho p hp (e ▸ .head _)
  · intro p hp
    rcases List.mem_append.mp hp with hp | hp
    · rcases List.mem_append.mp hp with hp | hp
      · exact Nat.ne_of_gt (hab p hp).2.1
      · exact hok p hp
    · exact fun e => ho p hp (e ▸ .tail _ (.head _))
theorem dj_done {e : Nat} (hJ : DJ q1 q2 q3 c k rest n d i ys nx) (N : News g L h ((D, listOf ys.toArray e) :: nx)) (hlt : ∀ p ∈ news, p.1 < D)
    (kk : ∀ (ts : List Tr) (ws' : List Value) (e' e2' : Nat) (tn' : Tok) (nj : Int) (tl : List (Addr × Obj)), News g L h ((D, listOf ys.toArray e) :: q1 :: q2 :: q3 :: (c, listOf (List.toArray ws') e') :: (k, listOf [Value.int nj tn'].toArray e2') :: (tl ++ rest)) → Coins ws' → nj = ((n + 1 + Tr.sizes ts : Nat) : Int) → ts.length = i →
      Hid (DK c k rest tl n d i ys ts) → Hid (∀ p ∈ news, p.1 < D) → C) : C := by
  obtain ⟨ts, ws', e', e2', tn', nj, tl, rfl, hlen, hnj, hpres, hoks, hcoin, hdats, hab⟩ := hJ
  exact kk ts ws' e' e2' tn' nj tl N hcoin hnj hlen ⟨⟨hlen, hpres, hoks, hdats, hab⟩⟩ ⟨hlt⟩
end
theorem dj_end {q1 q2 q3 : Addr × Obj} {c k : Addr} {rest own tl tl' nx : List (Addr × Obj)} {n d i : Nat} {ys : List Value} {ts : List Tr} {ws ws' : List Value} {e e' e2 e2' : Nat} {tn tn' : Tok} {ni nj : Int} {v : Value} {t : Tr} {h₀ h' : Heap} {L : Addr} {m : Str → Option Value} {s : Shared} {tk' : Nat}
    (hnx : nx = q1 :: q2 :: q3 :: (c, listOf (List.toArray ws) e) :: (k, listOf [Value.int ni tn].toArray e2) :: (tl ++ rest)) (K : Hid (DK c k rest tl n d i ys ts))
    (a1 : Tr.Pre (n + 1 + Tr.sizes ts) t) (a2 : Tr.Ok d t) (a3 : nj = ((n + 1 + Tr.sizes ts + t.size : Nat) : Int)) (a4 : Coins ws') (a5 : DatIn tl' v t.dat)
    (a6 : ∀ p ∈ tl', @LT.lt Nat _ c p.1 ∧ @LT.lt Nat _ k p.1 ∧ (∀ q ∈ [q1, q2, q3], q.1 < p.1) ∧ ∀ q ∈ tl ++ rest ++ own, q.1 < p.1) (F : Fr h₀ L h' m)
    (N : News h₀ L h' ([q1, q2, q3] ++ ((c, listOf ws'.toArray e') :: (k, listOf [Value.int nj tn'].toArray e2') :: (tl' ++ (tl ++ rest ++ own))))) :
    EltEnd h₀ L m [c, k] own nx (DJ q1 q2 q3 c k rest n d (i + 1) (ys ++ [v])) s { s with heap := h', toks := tk' } := by
  subst hnx
  exact dj_next K.out.1 K.out.2.1 K.out.2.2.1 K.out.2.2.2.1 K.out.2.2.2.2 a1 a2 a3 a4 a5 a6 F N
end
section
set_option maxRecDepth 100000 in
set_option maxHeartbeats 8000000 in
theorem drawn_ok (w : World) (mean : ExcName → Option Value) (mg mb : Str → Option Value) : ∀ (d : Nat), DrawnOk w mean mg mb d := by
  intro d
  induction d with
  | zero =>
    constructor
    intro dp un gd cn cs a ccd cl outer A₀ base h₀ L m s c k ws e e2 n ni di rest tn td Q E B F X N T hk I hn hdi hck hoc hok hd hu ret
    subst hn
    revert X
    w_top off
    k_with_none
    k_with "units_room" => (((have _ := cLine_is); simp only [units_in1, units_deeper, Around.mark_units, units_caller]; (try dsimp only [ktrTop]); omega))
    k_with "k_all" => (assumption)
    k_with "kpa_ne" => (exact pos_of_ne (by assumption) (by assumption))
    k_with "call builtin:list.reverse" => ((k_here; k_dflt (refine' my_reverse ?zF ?zN ?zU ?zz ?_; (case zF => k_asm); (case zN => k_asm); (case zU => k_upd); (case zz => ((simp only [sizeLine_eq, List.length_append, List.length_cons, List.length_nil]); first | omega | ((simp only [rangeKs_length] at *); omega)))); intro _ _ _; (try k_sweep)))
    k_with "call builtin:list.append" => ((k_here; (with_reducible show wpAny _ _ (call (Value.builtin _) [Value.ref _, _]) _ _ _); k_dflt (refine' my_append ?zF ?zN ?zU ?zz ?_; (case zF => k_asm); (case zN => k_asm); (case zU => k_upd); (case zz => ((simp only [sizeLine_eq, List.length_append, List.length_cons, List.length_nil]); first | omega | ((simp only [rangeKs_length] at *); omega)))); intro _ _ _; (try k_sweep)))
    k_with "call builtin:len" => ((k_here; (with_reducible show wpAny _ _ (call (Value.builtin "len") [Value.ref _]) _ _ _); k_dflt (refine' my_len ?zN ?zm ?zz ?_; (case zN => k_asm); (case zm => k_mem); (case zz => ((try simp only [List.length_append, List.length_cons, List.length_nil]); omega))); (try simp only [List.length_append, List.length_cons, List.length_nil])))
    k_with "k_room" => (((try simp only [depth_under_make, depth_under_kw, depth_in1, depth_deeper, depth_caller, recursionLimit]); (try dsimp only [ktrTop]); omega))
    k_with "k_units" => (units_room)
    k_with "k_enter" => (first
      | (refine' code_def ?ze1 ?ze2 ?ze3 ?ze4 ?ze5 ?ze6 ?ze7 ?ze8 ?ze9 ?ze10 ?ze11 ?ze12 ?ze13 ?_ ?ze14 ?ze15 ?ze16 ?ze17; (case ze6 => exact rfl); (case ze7 => exact rfl); (case ze8 => first | exact rfl | assumption); (case ze1 => k_asm); (case ze2 => k_asm); (case ze3 => k_asm); (case ze4 => k_asm); (case ze5 => k_asm); (case ze9 => k_is); (case ze10 => k_is); (case ze11 => k_room); (case ze12 => exact BindsTo.of_eq rfl); (case ze17 => decide); (case ze13 => exact locs rfl); (case ze14 => exact rfl); (case ze15 => exact rfl); (case ze16 => exact rfl); k_whole; intro _ _ _ _ _ _ _ _ _; (try dsimp only); (try k_fold))
      | (refine' code_defC ?ze1 ?ze2 ?ze3 ?ze4 ?ze5 ?ze6 ?ze7 ?ze8 ?ze9 ?ze10 ?ze11 ?ze12 ?ze13 ?ze14 ?_ ?ze15 ?ze16 ?ze17; (case ze6 => exact rfl); (case ze7 => exact rfl); (case ze8 => first | exact rfl | assumption); (case ze1 => k_asm); (case ze2 => k_asm); (case ze3 => k_asm); (case ze4 => k_asm); (case ze5 => k_asm); (case ze9 => k_is); (case ze10 => k_is); (case ze11 => k_room); (case ze12 => exact BindsTo.of_eq rfl); (case ze13 => exact rfl); (case ze14 => decide +kernel); (case ze15 => exact rfl); (case ze16 => exact rfl); (case ze17 => exact rfl); k_whole; intro _ _ _ _ _ _ _ N'z Y'z _ _ _ l1z; (try k_lt l1z); k_cells Y'z; (try simp only [List.cons_append, List.nil_append] at N'z); (try dsimp only); (try k_fold)))
    k_with "call ref" => ((k_here; (with_reducible show wpAny _ _ (call (Value.ref 75) [Value.ref _, Value.int _ _]) _ _ _); k_dflt (refine' coin_use _ [_, _, _] ?zk1 ?zk2 ?zk3 ?zk4 ?zk5 ?zk6 ?zk7 ?zk8 ?zk9 ?zk10 ?zk11 ?zk12 ?zk13 ?_; (case zk4 => k_asm); (case zk1 => k_asm); (case zk2 => k_asm); (case zk3 => k_asm); (case zk5 => k_asm); (case zk6 => exact rfl); (case zk7 => assumption); (case zk8 => decide); (case zk9 => decide); (case zk10 => k_all); (case zk11 => k_all); (case zk12 => (dsimp only [ktrTop]; omega)); (case zk13 => (dsimp only [ktrTop]; omega))); intro _ _ _ _ _ _ _ _ _ _ N9z; (try dsimp only [List.cons_append, List.nil_append] at N9z); (try k_sweep)))
    k_with "call ref" => ((k_here; (with_reducible show wpAny _ _ (call (Value.ref 75) [Value.ref _, Value.int 7 _]) _ _ _); k_dflt (refine' coin_use _ [_, _, _] ?zk1 ?zk2 ?zk3 ?zk4 ?zk5 ?zk6 ?zk7 ?zk8 ?zk9 ?zk10 ?zk11 ?zk12 ?zk13 ?_; (case zk4 => k_asm); (case zk1 => k_asm); (case zk2 => k_asm); (case zk3 => k_asm); (case zk5 => k_asm); (case zk6 => exact rfl); (case zk7 => assumption); (case zk8 => decide); (case zk9 => decide); (case zk10 => k_all); (case zk11 => k_all); (case zk12 => (dsimp only [ktrTop]; omega)); (case zk13 => (dsimp only [ktrTop]; omega))); intro r9z _ _ _ _ _ _ _ _ _ N9z; (try dsimp only [List.cons_append, List.nil_append] at N9z); (try k_sweep); (have hw9z : (3 : Int) < r9z ∨ r9z = 0 ∨ r9z = 1 ∨ r9z = 2 ∨ r9z = 3 := by omega); rcases hw9z with hw9z | hw9z | hw9z | hw9z | hw9z <;> try subst hw9z))
    k_with "eval ListComp" => ((k_here; (refine' my_ListComp ?zk1 ?zk2 ?zk3 ?zk4 ?_); (case zk1 => with_unfolding_all rfl); (case zk2 => with_unfolding_all rfl); (case zk3 => decide); (case zk4 => (intro _; with_unfolding_all rfl))))
    k_with "CompGo" => (refine stopHere ?_)
    k_with "call ref" => ((k_here; (with_reducible show wpAny _ _ (call (Value.ref 80) _) _ _ _); refine stopHere ?_))
    k_fill
    intro X
    refine wpAny_call ?_
    k_dflt k_enter
    refine toFalse ?_
    k_steps
    rename_i l1 _ _ _ _ l9 _ N9 _ _
    exact ret _ (.mk n .leaf []) _ _ _ _ _ _ _ _ ⟨rfl, trivial⟩ ⟨rfl, .inl rfl, trivial⟩ rfl I (drawn_dat (w := .leaf) (ts := []) .nil) (drawn_abv l1.2.2.2.1 l1.2.2.2.2.1 (allLt_mem l1.2.2.2.2.2) l9.1 (tl := []) fun _ hp => nomatch hp) (by assumption) (drawn_fin0 N9)
  | succ d ih =>
    constructor
    intro dp un gd cn cs a ccd cl outer A₀ base h₀ L m s c k ws e e2 n ni di rest tn td Q E B F X N T hk I hn hdi hck hoc hok hd hu ret
    subst hn
    revert X
    w_top off
    k_with_none
    k_with "units_room" => (((have _ := cLine_is); simp only [units_in1, units_deeper, Around.mark_units, units_caller]; (try dsimp only [ktrTop]); omega))
    k_with "k_all" => (assumption)
    k_with "kpa_ne" => (exact pos_of_ne (by assumption) (by assumption))
    k_with "call builtin:list.reverse" => ((k_here; k_dflt (refine' my_reverse ?zF ?zN ?zU ?zz ?_; (case zF => k_asm); (case zN => k_asm); (case zU => k_upd); (case zz => ((simp only [sizeLine_eq, List.length_append, List.length_cons, List.length_nil]); first | omega | ((simp only [rangeKs_length] at *); omega)))); intro _ _ _; (try k_sweep)))
    k_with "call builtin:list.append" => ((k_here; (with_reducible show wpAny _ _ (call (Value.builtin _) [Value.ref _, _]) _ _ _); k_dflt (refine' my_append ?zF ?zN ?zU ?zz ?_; (case zF => k_asm); (case zN => k_asm); (case zU => k_upd); (case zz => ((simp only [sizeLine_eq, List.length_append, List.length_cons, List.length_nil]); first | omega | ((simp only [rangeKs_length] at *); omega)))); intro _ _ _; (try k_sweep)))
    k_with "call builtin:len" => ((k_here; (with_reducible show wpAny _ _ (call (Value.builtin "len") [Value.ref _]) _ _ _); k_dflt (refine' my_len ?zN ?zm ?zz ?_; (case zN => k_asm); (case zm => k_mem); (case zz => ((try simp only [List.length_append, List.length_cons, List.length_nil]); omega))); (try simp only [List.length_append, List.length_cons, List.length_nil])))
    k_with "k_room" => (((try simp only [depth_under_make, depth_under_kw, depth_in1, depth_deeper, depth_caller, recursionLimit]); (try dsimp only [ktrTop]); omega))
    k_with "k_units" => (units_room)
    k_with "k_enter" => (first
      | (refine' code_def ?ze1 ?ze2 ?ze3 ?ze4 ?ze5 ?ze6 ?ze7 ?ze8 ?ze9 ?ze10 ?ze11 ?ze12 ?ze13 ?_ ?ze14 ?ze15 ?ze16 ?ze17; (case ze6 => exact rfl); (case ze7 => exact rfl); (case ze8 => first | exact rfl | assumption); (case ze1 => k_asm); (case ze2 => k_asm); (case ze3 => k_asm); (case ze4 => k_asm); (case ze5 => k_asm); (case ze9 => k_is); (case ze10 => k_is); (case ze11 => k_room); (case ze12 => exact BindsTo.of_eq rfl); (case ze17 => decide); (case ze13 => exact locs rfl); (case ze14 => exact rfl); (case ze15 => exact rfl); (case ze16 => exact rfl); k_whole; intro _ _ _ _ _ _ _ _ _; (try dsimp only); (try k_fold))
      | (refine' code_defC ?ze1 ?ze2 ?ze3 ?ze4 ?ze5 ?ze6 ?ze7 ?ze8 ?ze9 ?ze10 ?ze11 ?ze12 ?ze13 ?ze14 ?_ ?ze15 ?ze16 ?ze17; (case ze6 => exact rfl); (case ze7 => exact rfl); (case ze8 => first | exact rfl | assumption); (case ze1 => k_asm); (case ze2 => k_asm); (case ze3 => k_asm); (case ze4 => k_asm); (case ze5 => k_asm); (case ze9 => k_is); (case ze10 => k_is); (case ze11 => k_room); (case ze12 => exact BindsTo.of_eq rfl); (case ze13 => exact rfl); (case ze14 => decide +kernel); (case ze15 => exact rfl); (case ze16 => exact rfl); (case ze17 => exact rfl); k_whole; intro _ _ _ _ _ _ _ N'z Y'z _ _ _ l1z; (try k_lt l1z); k_cells Y'z; (try simp only [List.cons_append, List.nil_append] at N'z); (try dsimp only); (try k_fold)))
    k_with "call ref" => ((k_here; (with_reducible show wpAny _ _ (call (Value.ref 75) [Value.ref _, Value.int _ _]) _ _ _); k_dflt (refine' coin_use _ [_, _, _] ?zk1 ?zk2 ?zk3 ?zk4 ?zk5 ?zk6 ?zk7 ?zk8 ?zk9 ?zk10 ?zk11 ?zk12 ?zk13 ?_; (case zk4 => k_asm); (case zk1 => k_asm); (case zk2 => k_asm); (case zk3 => k_asm); (case zk5 => k_asm); (case zk6 => exact rfl); (case zk7 => assumption); (case zk8 => decide); (case zk9 => decide); (case zk10 => k_all); (case zk11 => k_all); (case zk12 => (dsimp only [ktrTop]; omega)); (case zk13 => (dsimp only [ktrTop]; omega))); intro _ _ _ _ _ _ _ _ _ _ N9z; (try dsimp only [List.cons_append, List.nil_append] at N9z); (try k_sweep)))
    k_with "call ref" => ((k_here; (with_reducible show wpAny _ _ (call (Value.ref 75) [Value.ref _, Value.int 7 _]) _ _ _); k_dflt (refine' coin_use _ [_, _, _] ?zk1 ?zk2 ?zk3 ?zk4 ?zk5 ?zk6 ?zk7 ?zk8 ?zk9 ?zk10 ?zk11 ?zk12 ?zk13 ?_; (case zk4 => k_asm); (case zk1 => k_asm); (case zk2 => k_asm); (case zk3 => k_asm); (case zk5 => k_asm); (case zk6 => exact rfl); (case zk7 => assumption); (case zk8 => decide); (case zk9 => decide); (case zk10 => k_all); (case zk11 => k_all); (case zk12 => (dsimp only [ktrTop]; omega)); (case zk13 => (dsimp only [ktrTop]; omega))); intro r9z _ _ _ _ _ _ _ _ _ N9z; (try dsimp only [List.cons_append, List.nil_append] at N9z); (try k_sweep); (have hw9z : (3 : Int) < r9z ∨ r9z = 0 ∨ r9z = 1 ∨ r9z = 2 ∨ r9z = 3 := by omega); rcases hw9z with hw9z | hw9z | hw9z | hw9z | hw9z <;> try subst hw9z))
    k_with "eval ListComp" => ((k_here; (refine' my_ListComp ?zk1 ?zk2 ?zk3 ?zk4 ?_); (case zk1 => with_unfolding_all rfl); (case zk2 => with_unfolding_all rfl); (case zk3 => decide); (case zk4 => (intro _; with_unfolding_all rfl))))
    k_with "CompGo" => (refine stopHere ?_)
    k_with "call ref" => ((k_here; (with_reducible show wpAny _ _ (call (Value.ref 80) _) _ _ _); refine stopHere ?_))
    k_fill
    intro X
    refine wpAny_call ?_
    k_dflt k_enter
    refine toFalse ?_
    k_steps
    all_goals first
      | (with_reducible show Stop _)
      | (rename_i l1 _ _ _ _ l9 _ N9 _ _
         exact ret _ (.mk n .leaf []) _ _ _ _ _ _ _ _ ⟨rfl, trivial⟩ ⟨rfl, .inl rfl, trivial⟩ rfl (by assumption) (drawn_dat (w := .leaf) (ts := []) .nil) (drawn_abv l1.2.2.2.1 l1.2.2.2.2.1 (allLt_mem l1.2.2.2.2.2) l9.1 (tl := []) fun _ hp => nomatch hp) (by assumption) (drawn_fin0 N9))
    all_goals (
      unfold Stop; rename News _ _ _ _ => N9; rename IsRange _ _ _ _ _ _ _ _ => R9
      refine compGo_range [c, k] (DJ _ _ _ c k rest n d) R9 (range_small ?b0 ?b1) (range_size ?b0) ?s3 ?s4 ?s5 ?s6 ?s7 (by assumption) (newsTail (newsTail N9)) ?s8 ⟨[], _, _, _, _, _, [], rfl, rfl, ?s9, trivial, trivial, by assumption, .nil, fun _ hp => (nomatch hp)⟩ ?s10 ?s11
      case s4 => rfl
      case s5 => decide
      case s6 => rfl
      case s7 => rfl
      case b0 => omega
      case b1 => omega
      case s3 => rw [sizeLine_eq]; omega
      case s8 =>
        intro b hb
        rcases List.mem_cons.mp hb with hb | hb
        · subst hb; exact ⟨_, .tail _ (.tail _ (.tail _ (.head _)))⟩
        · obtain rfl := List.mem_singleton.mp hb; exact ⟨_, .tail _ (.tail _ (.tail _ (.tail _ (.head _))))⟩
      case s9 => simp [Tr.sizes]
      case s10 =>
        intro i ys nx h tk C mC own E' hi hJ F8 N8 ho hC
        refine dj_elim hJ N8 hoc hok ho ?_
        clear hJ N8 ho
        intro ts ws' e' e2' tn' nj tl hnx N7 hcoin hnj K h39 h49
        k_steps
        unfold Stop
        refine' drawn_use ih [_, _, _] ?B ?F ?X N7 ?T ?hk hcoin hnj ?hdi hck ?h1 ?h2 ?h3 ?h4 ?hd ?hu ?ret
        case B => assumption
        case F => assumption
        case X => assumption
        case T => assumption
        case hk => rfl
        case hdi => omega
        case h1 => exact List.forall_mem_cons.mpr ⟨by k_ne, List.forall_mem_cons.mpr ⟨by k_ne, List.forall_mem_cons.mpr ⟨by k_ne, List.forall_mem_nil _⟩⟩⟩
        case h2 => exact List.forall_mem_cons.mpr ⟨by k_ne, List.forall_mem_cons.mpr ⟨by k_ne, List.forall_mem_cons.mpr ⟨by k_ne, List.forall_mem_nil _⟩⟩⟩
        case h3 => exact h39.out
        case h4 => exact h49.out
        case hd => dsimp only [ktrTop]; omega
        case hu => dsimp only [ktrTop]; omega
        case ret =>
          intro v t ws'' e'' e2'' tn'' nj' tl' h'' tk'' a1 a2 a3 a4 a5 a6 F6 N6
          exact dj_end hnx K a1 a2 a3 a4 a5 a6 F6 N6
      case s11 =>
        intro D ys nx h tk e' hJ F8 N8 hD hlt
        refine dj_done hJ N8 hlt ?_
        clear hJ N8 hD hlt
        intro ts ws' e9 e2' tn' nj tl N8 hcoin hnj hlen K hlt
        k_steps
        rename_i l9 _ N9 _ _
        first
          | (refine ret _ (.mk n .conj ts) ws' e9 e2' tn' nj _ _ _ ⟨rfl, K.out.2.1⟩ ⟨?ar, .inr (Nat.succ_pos d), K.out.2.2.1⟩ ?nj hcoin (drawn_dat (w := .conj) K.out.2.2.2.1) (drawn_abv (hlt.out _ (.tail _ (.tail _ (.tail _ (.head _))))) (hlt.out _ (.tail _ (.tail _ (.tail _ (.tail _ (.head _)))))) (fun q hq => hlt.out q (.tail _ (.tail _ (.tail _ (.tail _ (.tail _ hq)))))) l9.1 K.out.2.2.2.2) (by assumption) (drawn_fin N9))
          | (refine ret _ (.mk n .disj ts) ws' e9 e2' tn' nj _ _ _ ⟨rfl, K.out.2.1⟩ ⟨?ar, .inr (Nat.succ_pos d), K.out.2.2.1⟩ ?nj hcoin (drawn_dat (w := .disj) K.out.2.2.2.1) (drawn_abv (hlt.out _ (.tail _ (.tail _ (.tail _ (.head _))))) (hlt.out _ (.tail _ (.tail _ (.tail _ (.tail _ (.head _)))))) (fun q hq => hlt.out q (.tail _ (.tail _ (.tail _ (.tail _ (.tail _ hq)))))) l9.1 K.out.2.2.2.2) (by assumption) (drawn_fin N9))
          | (refine ret _ (.mk n .arrow ts) ws' e9 e2' tn' nj _ _ _ ⟨rfl, K.out.2.1⟩ ⟨?ar, .inr (Nat.succ_pos d), K.out.2.2.1⟩ ?nj hcoin (drawn_dat (w := .arrow) K.out.2.2.2.1) (drawn_abv (hlt.out _ (.tail _ (.tail _ (.tail _ (.head _))))) (hlt.out _ (.tail _ (.tail _ (.tail _ (.tail _ (.head _)))))) (fun q hq => hlt.out q (.tail _ (.tail _ (.tail _ (.tail _ (.tail _ hq)))))) l9.1 K.out.2.2.2.2) (by assumption) (drawn_fin N9))
          | (refine ret _ (.mk n .neg ts) ws' e9 e2' tn' nj _ _ _ ⟨rfl, K.out.2.1⟩ ⟨?ar, .inr (Nat.succ_pos d), K.out.2.2.1⟩ ?nj hcoin (drawn_dat (w := .neg) K.out.2.2.2.1) (drawn_abv (hlt.out _ (.tail _ (.tail _ (.tail _ (.head _))))) (hlt.out _ (.tail _ (.tail _ (.tail _ (.tail _ (.head _)))))) (fun q hq => hlt.out q (.tail _ (.tail _ (.tail _ (.tail _ (.tail _ hq)))))) l9.1 K.out.2.2.2.2) (by assumption) (drawn_fin N9))
        case ar => simp [Wd.arity]; omega
        case nj => rw [hnj, Tr.size]; omega)
end
section
def Tr.fold (f : Int) : List Dat → Dat
  | [] => .tuple [.str (PySem.Str.ofString "a"), .int 16]
  | [x] => x
  | x :: y :: r => .tuple [.str (PySem.Str.ofString "s"), .int f, .tuple [x, Tr.fold f (y :: r)]]
def Tr.mean (n : Nat) (w : Wd) (ds : List Dat) : Dat := match w, ds with
  | .leaf, _ => .tuple [.str (PySem.Str.ofString "a"), .int (50 + (n : Int))]
  | .neg, [x] => .tuple [.str (PySem.Str.ofString "s"), .int 4, .tuple [x]]
  | .arrow, [x, y] => .tuple [.str (PySem.Str.ofString "s"), .int 3, .tuple [x, y]]
  | .conj, ds => Tr.fold 1 ds
  | .disj, ds => Tr.fold 2 ds
  | _, _ => .none
mutual
def Tr.meant : Tr → Dat
  | .mk n w ks => Tr.mean n w (Tr.meants ks)
def Tr.meants : List Tr → List Dat
  | [] => []
  | t :: r => t.meant :: Tr.meants r
end
theorem Tr.meants_append : ∀ (a b : List Tr), Tr.meants (a ++ b) = Tr.meants a ++ Tr.meants b
  | [], b => by simp [Tr.meants]
  | t :: r, b => by simp [Tr.meants, Tr.meants_append r b]
theorem Tr.meants_length : ∀ (a : List Tr), (Tr.meants a).length = a.length
  | [] => rfl
  | t :: r => by simp [Tr.meants, Tr.meants_length r]
theorem Tr.Oks_get : ∀ {d : Nat} {ks : List Tr} {i : Nat} {t : Tr}, Tr.Oks d ks → ks[i]? = some t → t.Ok d
  | d, u :: r, 0, t, h, e => by simp at e; subst e; simp only [Tr.Oks] at h; exact h.1
  | d, u :: r, i + 1, t, h, e => by simp only [Tr.Oks] at h; exact Tr.Oks_get h.2 (by simpa using e)
theorem Tr.dats_get : ∀ {ks : List Tr} {vs : List Value} {pool : List (Addr × Obj)} {i : Nat} {v : Value}, DatAll pool vs (Tr.dats ks) → vs[i]? = some v → ∃ t, ks[i]? = some t ∧ DatIn pool v t.dat
  | [], vs, pool, i, v, h, e => by simp only [Tr.dats] at h; cases h; simp at e
  | t :: r, vs, pool, i, v, h, e => by
    simp only [Tr.dats] at h
    cases h with
    | cons h1 h2 =>
      cases i with
      | zero => simp at e; subst e; exact ⟨t, rfl, h1⟩
      | succ i => obtain ⟨u, hu, hd⟩ := Tr.dats_get (i := i) h2 (by simpa using e); exact ⟨u, by simpa using hu, hd⟩

def MeantSpec (w : World) (mean : ExcName → Option Value) (mg mb : Str → Option Value) (d : Nat) : Prop := ∀ 
  (dp un : Nat) (gd : Option (List Code)) (cn : Str) (cs : Scope) (a : Addr) (ccd : Value) (cl : List (Str × Addr)) (outer : List Env) (A₀ : Around) (base h₀ : Heap) (L : Addr) (m : Str → Option Value) (s : Shared)
  (t : Tr) (v : Value) (pool news : List (Addr × Obj)) (Q E : Value → Shared → Prop)
  (_ : Below A₀ base outer h₀) (_ : Fr h₀ L s.heap m) (_ : (hd.heap_39 w.params).In h₀) (_ : News h₀ L s.heap news)
  (_ : Top hd.view_39 (looseW hd.view_39 []) mean mg mb h₀) (_ : cs.kind = .function) (_ : DatIn pool v t.dat) (_ : ∀ p ∈ pool, p ∈ news) (_ : t.Ok d)
  (_ : dp + d ≤ 350) (_ : un + 8 * d ≤ 500) (_ : d ≤ 10)
  (_ : ∀ r tl h' tk', DatIn tl r t.meant → (∀ p ∈ tl, ∀ q ∈ news, q.1 < p.1) → Fr h₀ L h' m → News h₀ L h' (tl ++ news) → Q r { s with heap := h', toks := tk' }),
   wpAny (model PySem.Challenge.rw_sa0140_01.row.prog w) (ktrTop dp un gd cn cs L a ccd cl outer) (call (.ref 85) [v]) Q E s
structure MeantOk (w : World) (mean : ExcName → Option Value) (mg mb : Str → Option Value) (d : Nat) : Prop where
  out : MeantSpec w mean mg mb d

/-- the kinds of lists of at most three -/
theorem three {α : Type} {l : List α} (h : l.length ≤ 3) : l = [] ∨ (∃ a, l = [a]) ∨ (∃ a b, l = [a, b]) ∨ ∃ a b c, l = [a, b, c] := by
  match l, h with
  | [], _ => exact .inl rfl
  | [a], _ => exact .inr (.inl ⟨a, rfl⟩)
  | [a, b], _ => exact .inr (.inr (.inl ⟨a, b, rfl⟩))
  | [a, b, c], _ => exact .inr (.inr (.inr ⟨a, b, c, rfl⟩))
  | _ :: _ :: _ :: _ :: _, h => simp at h

def MJ (ks : List Tr) (news : List (Addr × Obj)) (i : Nat) (ys : List Value) (nx : List (Addr × Obj)) : Prop :=
  ∃ tl, nx = tl ++ news ∧ DatAll tl ys (Tr.meants (ks.take i)) ∧ ∀ p ∈ tl, ∀ q ∈ news, q.1 < p.1

theorem mj_next {ks : List Tr} {news own tl tl' : List (Addr × Obj)} {i : Nat} {ys : List Value} {v : Value} {t : Tr} {h₀ h' : Heap} {L : Addr} {m : Str → Option Value} {s : Shared} {tk' : Nat}
    (hk : ks[i]? = some t) (hD : DatAll tl ys (Tr.meants (ks.take i))) (hab : ∀ p ∈ tl, ∀ q ∈ news, q.1 < p.1) (a5 : DatIn tl' v t.meant) (a6 : ∀ p ∈ tl', ∀ q ∈ own ++ (tl ++ news), q.1 < p.1) (F : Fr h₀ L h' m)
    (N : News h₀ L h' (tl' ++ (own ++ (tl ++ news)))) :
    EltEnd h₀ L m [] own (tl ++ news) (MJ ks news (i + 1) (ys ++ [v])) s { s with heap := h', toks := tk' } := by
  refine ⟨h', tk', (tl' ++ tl) ++ news, rfl, F, ?_, ?_, tl' ++ tl, rfl, ?_, ?_⟩
  · refine newsSub N fun p hp => ?_
    simp only [List.mem_append] at hp ⊢
    rcases hp with h | (h | h) | h <;> simp [h]
  · intro p hp
    simp only [List.mem_append] at hp
    rcases hp with (h | h) | h
    · exact .inr (.inr fun q hq => a6 p h q (List.mem_append.mpr (.inl hq)))
    · exact .inl (List.mem_append.mpr (.inl h))
    · exact .inl (List.mem_append.mpr (.inr h))
  · rw [List.take_add_one, hk, Tr.meants_append]
    exact (DatAll.mono (fun p hp => List.mem_append.mpr (.inr hp)) hD).append (DatAll.one (DatIn.mono (fun p hp => List.mem_append.mpr (.inl hp)) a5))
  · intro p hp q hq
    rcases List.mem_append.mp hp with hp | hp
    · exact a6 p hp q (by simp [hq])
    · exact hab p hp q hq
end
section
theorem kqdOk_mono : ∀ (n m : Nat) (d : Dat), n ≤ m → kqdOk n d = true → kqdOk m d = true := by
  intro n
  induction n with
  | zero =>
    intro m d _ h
    cases d <;> cases m <;> simp_all [kqdOk]
  | succ n ih =>
    intro m d hm h
    cases m with
    | zero => omega
    | succ m =>
      have hm' : n ≤ m := by omega
      cases d with
      | tuple ds => simp only [kqdOk, List.all_eq_true] at h ⊢; exact fun x hx => ih m x hm' (h x hx)
      | list ds => simp only [kqdOk, List.all_eq_true] at h ⊢; exact fun x hx => ih m x hm' (h x hx)
      | _ => simp_all [kqdOk]
section
variable {prog : Program} {w : World} {A : Around} {E : Value → Shared → Prop} {s : Shared} {h₀ : Heap} {L : Addr} {news n₁ n₂ : List (Addr × Obj)} {a b : Value} {d e : Dat} {Q : Value → Shared → Prop}
open Classical in
theorem dat_eqv {k : Nat} (ha : kqdOk k d = true) (hb : kqdOk k e = true) : PyData.eqv (kqdP d) (kqdP e) = decide (d = e) := by
  have q := kqd_eqv k d e k ha hb
  by_cases hq : d = e
  · rw [decide_eq_true hq]; exact q.mpr hq
  · rw [decide_eq_false hq]; exact Bool.eq_false_iff.mpr fun x => hq (q.mp x)
theorem dat_shaped {k : Nat} (hk : k ≤ 60) (ha : kqdOk k d = true) : SeqAt.shaped (kqdP d) = true := by
  have l := kqd_lay k d ha
  unfold SeqAt.shaped
  rw [l.1, Bool.true_and]
  exact decide_eq_true (by omega)
open Classical in
theorem my_eq (k : Nat) (N : News h₀ L s.heap news) (Da : DatIn n₁ a d) (sa : ∀ p ∈ n₁, p ∈ news) (Db : DatIn n₂ b e) (sb : ∀ p ∈ n₂, p ∈ news) (ha : kqdOk k d = true) (hb : kqdOk k e = true) (hk : k ≤ 60) (hu : A.units + 64 < cLine)
    (h : Q (.bool (decide (d = e))) s) : wpAny (model prog w) A (compareOp .Eq a b) Q E s := by
  obtain ⟨as, ra⟩ := kqd_in N k (Da.mono sa) ha
  obtain ⟨bs, rb⟩ := kqd_in N k (Db.mono sb) hb
  exact eq_dataH ra rb (dat_shaped hk ha) (dat_shaped hk hb) hu (by rw [dat_eqv ha hb]; exact h)
open Classical in
theorem my_ne (k : Nat) (N : News h₀ L s.heap news) (Da : DatIn n₁ a d) (sa : ∀ p ∈ n₁, p ∈ news) (Db : DatIn n₂ b e) (sb : ∀ p ∈ n₂, p ∈ news) (ha : kqdOk k d = true) (hb : kqdOk k e = true) (hk : k ≤ 60) (hu : A.units + 64 < cLine)
    (h : Q (.bool (!decide (d = e))) s) : wpAny (model prog w) A (compareOp .NotEq a b) Q E s := by
  obtain ⟨as, ra⟩ := kqd_in N k (Da.mono sa) ha
  obtain ⟨bs, rb⟩ := kqd_in N k (Db.mono sb) hb
  exact ne_dataH ra rb (dat_shaped hk ha) (dat_shaped hk hb) hu (by rw [dat_eqv ha hb]; exact h)
/-- xs == [] of a list of data -/
theorem my_eq_nil (k : Nat) {l l' : Addr} {ys : List Value} {ds : List Dat} {c c' : Nat} (N : News h₀ L s.heap news) (hl : (l, listOf ys.toArray c) ∈ news) (hl' : (l', listOf ([] : List Value).toArray c') ∈ news) (Da : DatAll n₁ ys ds) (sa : ∀ p ∈ n₁, p ∈ news)
    (ha : ∀ d ∈ ds, kqdOk k d = true) (hk : k ≤ 50) (hu : A.units + 64 < cLine) (h : Q (.bool ds.isEmpty) s) : wpAny (model prog w) A (compareOp .Eq (.ref l) (.ref l')) Q E s := by
  refine my_eq (k + 1) N (.list hl (Da.mono sa)) (fun _ hp => hp) (.list hl' .nil) (fun _ hp => hp) (by simp only [kqdOk, List.all_eq_true]; exact ha) (by simp [kqdOk]) (by omega) hu ?_
  cases ds with
  | nil => simpa using h
  | cons d ds => simpa using h
end
theorem Tr.mean_ok {k n : Nat} {w : Wd} {ds : List Dat} (har : w.arity ds.length = true) (h : ∀ d ∈ ds, kqdOk k d = true) : kqdOk (k + 4) (Tr.mean n w ds) = true := by
  have s1 : PyData.strOk (PySem.Str.ofString "s") = true := by decide +kernel
  have s2 : PyData.strOk (PySem.Str.ofString "a") = true := by decide +kernel
  have up : ∀ m d, k ≤ m → d ∈ ds → kqdOk m d = true := fun m d hm hd => kqdOk_mono k m d hm (h d hd)
  have fold : ∀ f, ds.length ≤ 3 → kqdOk (k + 4) (Tr.fold f ds) = true := by
    intro f hl
    match ds, hl, up with
    | [], _, _ => simp [Tr.fold, kqdOk, s2]
    | [x], _, up => exact up _ x (by omega) (.head _)
    | [x, y], _, up => simp [Tr.fold, kqdOk, s1, up (k + 2) x (by omega) (.head _), up (k + 2) y (by omega) (.tail _ (.head _))]
    | [x, y, z], _, up => simp [Tr.fold, kqdOk, s1, up (k + 2) x (by omega) (.head _), up k y (by omega) (.tail _ (.head _)), up k z (by omega) (.tail _ (.tail _ (.head _)))]
    | _ :: _ :: _ :: _ :: _, hl, _ => simp at hl
  cases w with
  | leaf => simp [Tr.mean, kqdOk, s2]
  | conj => exact fold 1 (by simpa [Wd.arity] using har)
  | disj => exact fold 2 (by simp [Wd.arity] at har; omega)
  | arrow =>
    simp only [Wd.arity, beq_iff_eq] at har
    match ds, har, up with
    | [x, y], _, up => simp [Tr.mean, kqdOk, s1, up (k + 2) x (by omega) (.head _), up (k + 2) y (by omega) (.tail _ (.head _))]
  | neg =>
    simp only [Wd.arity, beq_iff_eq] at har
    match ds, har, up with
    | [x], _, up => simp [Tr.mean, kqdOk, s1, up (k + 2) x (by omega) (.head _)]
theorem Tr.meants_of : ∀ {ks : List Tr} {P : Dat → Prop}, (∀ t ∈ ks, P t.meant) → ∀ d ∈ Tr.meants ks, P d
  | [], _, _, _, hd => by simp [Tr.meants] at hd
  | t :: r, P, h, d, hd => by
    simp only [Tr.meants, List.mem_cons] at hd
    rcases hd with rfl | hd
    · exact h t (.head _)
    · exact Tr.meants_of (fun u hu => h u (.tail _ hu)) d hd
theorem Tr.Oks_mem : ∀ {d : Nat} {ks : List Tr}, Tr.Oks d ks → ∀ t ∈ ks, t.Ok d
  | _, [], _, _, h => (nomatch h)
  | d, u :: r, h, t, ht => by
    simp only [Tr.Oks] at h
    rcases List.mem_cons.mp ht with rfl | ht
    · exact h.1
    · exact Tr.Oks_mem h.2 t ht
theorem Tr.meant_ok : ∀ (d : Nat) (t : Tr), t.Ok d → kqdOk (4 * d + 4) t.meant = true := by
  intro d
  induction d with
  | zero =>
    intro t h
    obtain ⟨n, w, ks⟩ := t
    simp only [Tr.Ok] at h
    obtain ⟨h1, h2, _⟩ := h
    obtain rfl : ks = [] := h2.elim id fun h => absurd h (Nat.lt_irrefl _)
    rw [Tr.meant]
    exact Tr.mean_ok (k := 0) (by simpa [Tr.meants] using h1) (by simp [Tr.meants])
  | succ d ih =>
    intro t h
    obtain ⟨n, w, ks⟩ := t
    simp only [Tr.Ok] at h
    obtain ⟨h1, _, h3⟩ := h
    rw [Tr.meant, show 4 * (d + 1) + 4 = (4 * d + 4) + 4 by omega]
    exact Tr.mean_ok (by rw [Tr.meants_length]; exact h1) (Tr.meants_of fun t ht => ih t (Tr.Oks_mem (by simpa using h3) t ht))
theorem Tr.dats_of : ∀ {ks : List Tr} {P : Dat → Prop}, (∀ t ∈ ks, P t.dat) → ∀ d ∈ Tr.dats ks, P d
  | [], _, _, _, hd => by simp [Tr.dats] at hd
  | t :: r, P, h, d, hd => by
    simp only [Tr.dats, List.mem_cons] at hd
    rcases hd with rfl | hd
    · exact h t (.head _)
    · exact Tr.dats_of (fun u hu => h u (.tail _ hu)) d hd
theorem Wd.str_ok (w : Wd) : PyData.strOk w.str = true := by cases w <;> decide +kernel
theorem Tr.dat_ok : ∀ (d : Nat) (t : Tr), t.Ok d → kqdOk (2 * d + 2) t.dat = true := by
  intro d
  induction d with
  | zero =>
    intro t h
    obtain ⟨n, w, ks⟩ := t
    simp only [Tr.Ok] at h
    obtain ⟨h1, h2, _⟩ := h
    obtain rfl : ks = [] := h2.elim id fun h => absurd h (Nat.lt_irrefl _)
    simp [Tr.dat, Tr.dats, kqdOk, Wd.str_ok]
  | succ d ih =>
    intro t h
    obtain ⟨n, w, ks⟩ := t
    simp only [Tr.Ok] at h
    obtain ⟨h1, _, h3⟩ := h
    rw [Tr.dat, show 2 * (d + 1) + 2 = (2 * d + 2) + 1 + 1 by omega]
    have := Tr.dats_of (P := fun x => kqdOk (2 * d + 2) x = true) fun t ht => ih t (Tr.Oks_mem (by simpa using h3) t ht)
    simp only [kqdOk, List.all_cons, Wd.str_ok, Bool.true_and, Bool.and_true, List.all_nil, List.all_eq_true]
    exact this
theorem sp1 (a : Value) : (slicePick [a].toArray (some (-2)) none (some (-1))).toList = [] := by
  have h : sliceRange (sliceBounds (some (-2)) none (some (-1)) 1).1 (sliceBounds (some (-2)) none (some (-1)) 1).2.1 (sliceBounds (some (-2)) none (some (-1)) 1).2.2 = [] := by decide +kernel
  unfold slicePick
  rw [show [a].toArray.size = 1 from rfl, h]
  rfl
theorem sp2 (a b : Value) : (slicePick [a, b].toArray (some (-2)) none (some (-1))).toList = [a] := by
  have h : sliceRange (sliceBounds (some (-2)) none (some (-1)) 2).1 (sliceBounds (some (-2)) none (some (-1)) 2).2.1 (sliceBounds (some (-2)) none (some (-1)) 2).2.2 = [0] := by decide +kernel
  unfold slicePick
  rw [show [a, b].toArray.size = 2 from rfl, h]
  rfl
theorem sp3 (a b c : Value) : (slicePick [a, b, c].toArray (some (-2)) none (some (-1))).toList = [b, a] := by
  have h : sliceRange (sliceBounds (some (-2)) none (some (-1)) 3).1 (sliceBounds (some (-2)) none (some (-1)) 3).2.1 (sliceBounds (some (-2)) none (some (-1)) 3).2.2 = [1, 0] := by decide +kernel
  unfold slicePick
  rw [show [a, b, c].toArray.size = 3 from rfl, h]
  rfl
section
variable {h₀ h : Heap} {L I D : Addr} {p p1 p2 : Addr × Obj} {it : Obj} {pre tl news rest : List (Addr × Obj)} {m' : Str → Option Value} {R : (Str → Option Value) → List (Addr × Obj) → Prop} {s₁ : Shared} {tk : Nat}
/-- the end of a turn that has made two objects -/
theorem unr2 (F : Fr h₀ L h m') (N : News h₀ L h (p2 :: p1 :: (I, it) :: rest)) (h1 : @LT.lt Nat _ I p1.1) (h2 : @LT.lt Nat _ I p2.1) (hr : ∀ p ∈ rest, p.1 ≠ I) (r : R m' (p2 :: p1 :: rest)) :
    UnrEnd h₀ L s₁ I it R { s₁ with heap := h, toks := tk } := by
  refine UnrEnd.intro F N (p2 :: p1 :: rest) (fun p hp => ?_) (fun p hp => ?_) r
  · simp only [List.mem_cons] at hp ⊢
    rcases hp with h | h | h | h <;> simp [h]
  · rcases List.mem_cons.mp hp with rfl | hp
    · exact Nat.ne_of_gt h2
    · rcases List.mem_cons.mp hp with rfl | hp
      · exact Nat.ne_of_gt h1
      · exact hr p hp
theorem meant_abv (hlt : ∀ q ∈ news, q.1 < D) (hp : ∀ p ∈ pre, @LE.le Nat _ D p.1) (hab : ∀ p ∈ tl, ∀ q ∈ news, q.1 < p.1) : ∀ p ∈ pre ++ tl, ∀ q ∈ news, q.1 < p.1 := by
  intro p h q hq
  rcases List.mem_append.mp h with h | h
  · exact Nat.lt_of_lt_of_le (hlt q hq) (hp p h)
  · exact hab p h q hq
theorem newsAssoc {a b c : List (Addr × Obj)} (N : News h₀ L h (a ++ (b ++ c))) : News h₀ L h ((a ++ b) ++ c) := by rw [List.append_assoc]; exact N
end
end
section
section
variable {C : Prop} {ks : List Tr} {news own tl tl' nx pool : List (Addr × Obj)} {i d : Nat} {ys vs : List Value} {v : Value} {t : Tr} {h₀ h h' : Heap} {L : Addr} {m : Str → Option Value} {s : Shared} {tk' : Nat} {P : List Value → Prop}
/-- what a turn of the comprehension of _law_meant knows -/
def MK (ks : List Tr) (news tl : List (Addr × Obj)) (i : Nat) (ys : List Value) (t : Tr) : Prop := ks[i]? = some t ∧ DatAll tl ys (Tr.meants (ks.take i)) ∧ ∀ p ∈ tl, ∀ q ∈ news, q.1 < p.1
theorem mj_elim (hJ : MJ ks news i ys nx) (hr : DatAll pool vs (Tr.dats ks)) (ht : vs[i]? = some v) (hoks : Tr.Oks (d - 1) ks) (hdp : ks = [] ∨ 0 < d) (N : News h₀ L h (own ++ nx))
    (kk : ∀ (tl : List (Addr × Obj)) (t : Tr), nx = tl ++ news → Hid (MK ks news tl i ys t) → Hid (DatIn pool v t.dat) → t.Ok (d - 1) → 0 < d → News h₀ L h (own ++ (tl ++ news)) → C) : C := by
  obtain ⟨tl, rfl, hD, hab⟩ := hJ
  obtain ⟨t, hk, hdt⟩ := Tr.dats_get hr ht
  have hd0 : 0 < d := by
    rcases hdp with rfl | hdp
    · simp at hk
    · exact hdp
  exact kk tl t rfl ⟨⟨hk, hD, hab⟩⟩ ⟨hdt⟩ (Tr.Oks_get hoks hk) hd0 N
theorem mj_end (hnx : nx = tl ++ news) (K : Hid (MK ks news tl i ys t)) (a5 : DatIn tl' v t.meant) (a6 : ∀ p ∈ tl', ∀ q ∈ own ++ (tl ++ news), q.1 < p.1) (F : Fr h₀ L h' m) (N : News h₀ L h' (tl' ++ (own ++ (tl ++ news)))) :
    EltEnd h₀ L m [] own nx (MJ ks news (i + 1) (ys ++ [v])) s { s with heap := h', toks := tk' } := by
  subst hnx
  exact mj_next K.out.1 K.out.2.1 K.out.2.2 a5 a6 F N
theorem mj_done {D : Addr} {e : Nat} (hJ : MJ ks news vs.length ys nx) (hr : DatAll pool vs (Tr.dats ks)) (hoks : Tr.Oks (d - 1) ks) (N : News h₀ L h ((D, listOf ys.toArray e) :: nx)) (hlt : ∀ p ∈ news, p.1 < D)
    (kk : ∀ tl : List (Addr × Obj), News h₀ L h ((D, listOf ys.toArray e) :: (tl ++ news)) → Hid (DatAll tl ys (Tr.meants ks)) → Hid (∀ p ∈ tl, ∀ q ∈ news, q.1 < p.1) → Hid (∀ p ∈ news, p.1 < D) → Hid (∀ x ∈ Tr.meants ks, kqdOk (4 * (d - 1) + 4) x = true) → C) : C := by
  obtain ⟨tl, rfl, hD, hab⟩ := hJ
  have hvl := hr.length
  rw [Tr.dats_length] at hvl
  rw [hvl, List.take_length] at hD
  exact kk tl N ⟨hD⟩ ⟨hab⟩ ⟨hlt⟩ ⟨Tr.meants_of (P := fun x => kqdOk (4 * (d - 1) + 4) x = true) fun t ht => Tr.meant_ok (d - 1) t (Tr.Oks_mem hoks t ht)⟩
theorem yargs0 (h : DatAll tl ys (Tr.meants [])) (hN : P ys) (kk : P [] → C) : C := by
  cases h
  exact kk hN
theorem yargs1 {k1 : Tr} (h : DatAll tl ys (Tr.meants [k1])) (hN : P ys) (kk : ∀ y1, P [y1] → Hid (DatIn tl y1 k1.meant) → C) : C := by
  cases h with
  | cons b1 h =>
  cases h
  exact kk _ hN ⟨b1⟩
theorem yargs2 {k1 k2 : Tr} (h : DatAll tl ys (Tr.meants [k1, k2])) (hN : P ys) (kk : ∀ y1 y2, P [y1, y2] → Hid (DatIn tl y1 k1.meant) → Hid (DatIn tl y2 k2.meant) → C) : C := by
  cases h with
  | cons b1 h =>
  cases h with
  | cons b2 h =>
  cases h
  exact kk _ _ hN ⟨b1⟩ ⟨b2⟩
theorem yargs3 {k1 k2 k3 : Tr} (h : DatAll tl ys (Tr.meants [k1, k2, k3])) (hN : P ys) (kk : ∀ y1 y2 y3, P [y1, y2, y3] → Hid (DatIn tl y1 k1.meant) → Hid (DatIn tl y2 k2.meant) → Hid (DatIn tl y3 k3.meant) → C) : C := by
  cases h with
  | cons b1 h =>
  cases h with
  | cons b2 h =>
  cases h with
  | cons b3 h =>
  cases h
  exact kk _ _ _ hN ⟨b1⟩ ⟨b2⟩ ⟨b3⟩
end
theorem Wd.leaf_of {w : Wd} (h : (w.str == PySem.Str.ofString "leaf") = true) : w = .leaf := by
  cases w <;> first | rfl | exact absurd h (by decide +kernel)
theorem Wd.not_leaf {w : Wd} (h : (w.str == PySem.Str.ofString "leaf") = false) : w ≠ .leaf := by
  rintro rfl
  exact absurd h (by decide +kernel)
theorem kids_le3 {w : Wd} {n : Nat} (h : w.arity n = true) : n ≤ 3 := by
  cases w <;> simp only [Wd.arity, beq_iff_eq, decide_eq_true_eq, Bool.and_eq_true] at h <;> omega
end
section
set_option maxRecDepth 100000 in
set_option maxHeartbeats 8000000 in
theorem meant_step (w : World) (mean : ExcName → Option Value) (mg mb : Str → Option Value) (d : Nat) (ih : 0 < d → MeantOk w mean mg mb (d - 1)) : MeantOk w mean mg mb d := by
    constructor
    intro dp un gd cn cs a ccd cl outer A₀ base h₀ L m s t v pool news Q E B F X N T hk hv hpool hok hd hu hd10 ret
    revert X
    w_top off
    k_with_none
    k_with "units_room" => (((have _ := cLine_is); simp only [units_in1, units_deeper, Around.mark_units, units_caller]; (try dsimp only [ktrTop]); omega))
    k_with "k_all" => (assumption)
    k_with "kpa_ne" => (exact pos_of_ne (by assumption) (by assumption))
    k_with "call builtin:list.reverse" => ((k_here; k_dflt (refine' my_reverse ?zF ?zN ?zU ?zz ?_; (case zF => k_asm); (case zN => k_asm); (case zU => k_upd); (case zz => ((simp only [sizeLine_eq, List.length_append, List.length_cons, List.length_nil]); first | omega | ((simp only [rangeKs_length] at *); omega)))); intro _ _ _; (try k_sweep)))
    k_with "call builtin:list.append" => ((k_here; (with_reducible show wpAny _ _ (call (Value.builtin _) [Value.ref _, _]) _ _ _); k_dflt (refine' my_append ?zF ?zN ?zU ?zz ?_; (case zF => k_asm); (case zN => k_asm); (case zU => k_upd); (case zz => ((simp only [sizeLine_eq, List.length_append, List.length_cons, List.length_nil]); first | omega | ((simp only [rangeKs_length] at *); omega)))); intro _ _ _; (try k_sweep)))
    k_with "call builtin:len" => ((k_here; (with_reducible show wpAny _ _ (call (Value.builtin "len") [Value.ref _]) _ _ _); k_dflt (refine' my_len ?zN ?zm ?zz ?_; (case zN => k_asm); (case zm => k_mem); (case zz => ((try simp only [List.length_append, List.length_cons, List.length_nil]); omega))); (try simp only [List.length_append, List.length_cons, List.length_nil])))
    k_with "k_room" => (((try simp only [depth_under_make, depth_under_kw, depth_in1, depth_deeper, depth_caller, recursionLimit]); (try dsimp only [ktrTop]); omega))
    k_with "k_units" => (units_room)
    k_with "k_enter" => (first
      | (refine' code_def ?ze1 ?ze2 ?ze3 ?ze4 ?ze5 ?ze6 ?ze7 ?ze8 ?ze9 ?ze10 ?ze11 ?ze12 ?ze13 ?_ ?ze14 ?ze15 ?ze16 ?ze17; (case ze6 => exact rfl); (case ze7 => exact rfl); (case ze8 => first | exact rfl | assumption); (case ze1 => k_asm); (case ze2 => k_asm); (case ze3 => k_asm); (case ze4 => k_asm); (case ze5 => k_asm); (case ze9 => k_is); (case ze10 => k_is); (case ze11 => k_room); (case ze12 => exact BindsTo.of_eq rfl); (case ze17 => decide); (case ze13 => exact locs rfl); (case ze14 => exact rfl); (case ze15 => exact rfl); (case ze16 => exact rfl); k_whole; intro _ _ _ _ _ _ _ _ _; (try dsimp only); (try k_fold))
      | (refine' code_defC ?ze1 ?ze2 ?ze3 ?ze4 ?ze5 ?ze6 ?ze7 ?ze8 ?ze9 ?ze10 ?ze11 ?ze12 ?ze13 ?ze14 ?_ ?ze15 ?ze16 ?ze17; (case ze6 => exact rfl); (case ze7 => exact rfl); (case ze8 => first | exact rfl | assumption); (case ze1 => k_asm); (case ze2 => k_asm); (case ze3 => k_asm); (case ze4 => k_asm); (case ze5 => k_asm); (case ze9 => k_is); (case ze10 => k_is); (case ze11 => k_room); (case ze12 => exact BindsTo.of_eq rfl); (case ze13 => exact rfl); (case ze14 => decide +kernel); (case ze15 => exact rfl); (case ze16 => exact rfl); (case ze17 => exact rfl); k_whole; intro _ _ _ _ _ _ _ N'z Y'z _ _ _ l1z; (try k_lt l1z); k_cells Y'z; (try simp only [List.cons_append, List.nil_append] at N'z); (try dsimp only); (try k_fold)))
    k_with "exec Assign cons ListComp" => ((k_here; (refine' my_Assign_ListComp ?zk0 ?zk1 ?zk2 ?zk3 ?zk4 ?_); (case zk0 => with_unfolding_all rfl); (case zk1 => with_unfolding_all rfl); (case zk2 => with_unfolding_all rfl); (case zk3 => decide); (case zk4 => (intro _; with_unfolding_all rfl))))
    k_with "CompGo" => (refine stopHere ?_)
    k_with "call ref" => ((k_here; (with_reducible show wpAny _ _ (call (Value.ref 85) _) _ _ _); refine stopHere ?_))
    k_with "compareOp Eq ref ref" => ((k_here; refine stopHere ?_))
    k_with "subscriptTail Name Slice ref ref" => ((k_here; (with_reducible show wpAny _ _ (subscriptTail _ (PySem.Expr.Slice _ _ (some _) _) (Value.ref _) (Value.ref _)) _ _ _); k_dflt (refine' kmk_slice3_lit ?zF ?zN ?zl ?zp ?zq ?zk ?zo ?ze ?_ ?zs ?zt ?zz; (case zF => k_asm); (case zN => k_asm); (case zl => exact News.isList (by k_asm) (by k_mem)); (case zp => kmk_part); (case zq => kmk_part); (case zk => kmk_part); (case zo => decide); (case ze => first | exact sp1 _ | exact sp2 _ _ | exact sp3 _ _ _); (case zs => with_unfolding_all rfl); (case zt => kmk_pure); (case zz => exact Nat.le_of_ble_eq_true rfl)); intro _ _ _ _ l1z; (try k_lt l1z); (try k_sweep)))
    k_with "exec For Name Subscript cons nil" => ((k_here; (rename Fr _ _ _ _ => lF'z); (with_unfolding_all refine' For_invVF lF'z ?zk1 ?zk2 ?_; (case zk1 => exact rfl); (case zk2 => exact rfl); k_whole)))
    k_with "pyIter ref" => (((with_reducible show wpAny _ _ (pyIter (Value.ref _)) (fun it s₂ => LoopAtV _ _ _ _ _ _ _ _ _ it s₂) _ _); refine stopHere ?_))
    k_fill
    intro X
    obtain ⟨n, wd, ks⟩ := t
    rw [Tr.dat] at hv
    cases hv with
    | tuple hm1 hr1 =>
    rename_i ta vs1 te
    cases hr1 with
    | cons h1 hr1 =>
    cases h1 with
    | int _ tn =>
    cases hr1 with
    | cons h1 hr1 =>
    cases h1 with
    | str _ tw =>
    cases hr1 with
    | cons h1 hr1 =>
    cases hr1
    cases h1 with
    | list hm2 hr2 =>
    rename_i l vs le
    have hn1 := hpool _ hm1
    have hn2 := hpool _ hm2
    clear hm1 hm2
    simp only [Tr.Ok] at hok
    obtain ⟨har, hdp, hoks⟩ := hok
    have hvl := hr2.length
    rw [Tr.dats_length] at hvl
    have hret := Hid.mk ret
    have hr3 := Hid.mk hr2
    have hok3 := Hid.mk hoks
    clear ret hr2 hoks
    refine wpAny_call ?_
    k_dflt k_enter
    refine toFalse ?_
    k_steps
    · rename_i hlf _ _ _ l9 _ N9 _ _
      obtain rfl := Wd.leaf_of (by assumption)
      refine hret.out _ [_] _ _ (DatIn.tuple (.head _) (.cons (.str _ _) (.cons (.int _ _) .nil))) (fun p hp q hq => ?_) (by assumption) N9
      rw [List.mem_singleton.mp hp]
      exact l9 q hq
    · unfold Stop
      refine compGo_list [] (MJ ks news) hn2 (fun h => nomatch h) ?sz rfl (by decide) rfl rfl rfl rfl (by assumption) (by assumption) (fun b hb => nomatch hb) ⟨[], rfl, .nil, fun _ hp => nomatch hp⟩ ?step ?done
      case sz => have hvl := hr3.out.length; rw [Tr.dats_length] at hvl; have := kids_le3 har; rw [sizeLine_eq]; omega
      case step =>
        intro i v ys nx h tk C mC own E' hi hJ F8 N8 ho hC hm
        refine mj_elim hJ hr3.out hi hok3.out hdp N8 ?_
        clear hJ N8 ho
        intro tl t hnx K hdt hto hd0 N8
        k_steps
        unfold Stop
        refine' (ih hd0).out _ _ _ _ _ _ _ _ _ _ _ _ _ _ _ t v pool (own ++ (tl ++ news)) _ _ ?B ?F ?X N8 ?T ?hk hdt.out ?sub hto ?hd ?hu (by omega) ?ret
        case B => assumption
        case F => assumption
        case X => assumption
        case T => assumption
        case hk => rfl
        case sub => exact fun p hp => List.mem_append.mpr (.inr (List.mem_append.mpr (.inr (hpool p hp))))
        case hd => dsimp only [ktrTop]; omega
        case hu => dsimp only [ktrTop]; omega
        case ret =>
          intro r tl' h'' tk'' a5 a6 F6 N6
          exact mj_end hnx K a5 a6 F6 N6
      case done =>
        intro D ys nx h tk e hJ F8 N8 hDn hlt
        refine mj_done hJ hr3.out hok3.out N8 hlt ?_
        clear hJ N8 hDn hlt
        intro tl N8 hD hab hlt hDk
        cases wd
        · exact absurd (by assumption : (Wd.leaf.str == PySem.Str.ofString "leaf") = false) (by decide +kernel)
        · rename Fr _ _ _ _ => F8
          dsimp only [Wd.str] at F8 hn1
          simp only [Wd.arity, decide_eq_true_eq] at har
          rcases three (l := ks) har with rfl | ⟨k1, rfl⟩ | ⟨k1, k2, rfl⟩ | ⟨k1, k2, k3, rfl⟩
          · have hDk9 := hDk.out
            simp only [Tr.meants] at hDk9
            replace hDk9 := Hid.mk hDk9
            clear hDk
            refine yargs0 (P := fun ys => News _ _ _ ((D, listOf ys.toArray e) :: _)) hD.out N8 ?_
            clear hD N8
            intro  N8 
            k_steps
            unfold Stop
            refine my_eq_nil (ds := []) (4 * (d - 1) + 4) (by assumption) (.tail _ (.head _)) (.head _) .nil (fun p hp => .tail _ (.tail _ (List.mem_append.mpr (.inl hp)))) hDk9.out (by omega) (by units_room) ?_
            simp only [List.isEmpty_cons, List.isEmpty_nil]
            k_steps
            rename_i N9 _ _
            refine hret.out _ ([_, _, _] ++ tl) _ _ (DatIn.tuple (.head _) (.cons (.str _ _) (.cons (.int _ _) .nil))) (meant_abv hlt.out (List.forall_mem_cons.mpr ⟨by dsimp only; omega, List.forall_mem_cons.mpr ⟨by dsimp only; omega, List.forall_mem_cons.mpr ⟨by dsimp only; omega, List.forall_mem_nil _⟩⟩⟩) hab.out) (by assumption) (newsAssoc (a := [_, _, _]) N9)
          · have hDk9 := hDk.out
            simp only [Tr.meants] at hDk9
            replace hDk9 := Hid.mk hDk9
            clear hDk
            refine yargs1 (P := fun ys => News _ _ _ ((D, listOf ys.toArray e) :: _)) hD.out N8 ?_
            clear hD N8
            intro y1 N8 b1
            k_steps
            unfold Stop
            refine my_eq_nil (ds := [k1.meant]) (4 * (d - 1) + 4) (by assumption) (.tail _ (.head _)) (.head _) (.cons b1.out .nil) (fun p hp => .tail _ (.tail _ (List.mem_append.mpr (.inl hp)))) hDk9.out (by omega) (by units_room) ?_
            simp only [List.isEmpty_cons, List.isEmpty_nil]
            k_steps
            unfold Stop
            rename News _ _ _ _ => N5; rename Fr _ _ _ _ => F5
            refine iter_listUnr (vs := []) rfl F5 N5 (.head _) rfl rfl fun I hI => ?_
            refine ListRest.zero fun h5 tk5 F6 N6 => ?_
            k_steps
            rename_i N9 _ _
            refine hret.out _ ([_, _, _] ++ tl) _ _ (b1.out.mono (fun p hp => List.mem_append.mpr (.inr hp))) (meant_abv hlt.out (List.forall_mem_cons.mpr ⟨by dsimp only; omega, List.forall_mem_cons.mpr ⟨by dsimp only; omega, List.forall_mem_cons.mpr ⟨by dsimp only; omega, List.forall_mem_nil _⟩⟩⟩) hab.out) (by assumption) (newsAssoc (a := [_, _, _]) N9)
          · have hDk9 := hDk.out
            simp only [Tr.meants] at hDk9
            replace hDk9 := Hid.mk hDk9
            clear hDk
            refine yargs2 (P := fun ys => News _ _ _ ((D, listOf ys.toArray e) :: _)) hD.out N8 ?_
            clear hD N8
            intro y1 y2 N8 b1 b2
            k_steps
            unfold Stop
            refine my_eq_nil (ds := [k1.meant, k2.meant]) (4 * (d - 1) + 4) (by assumption) (.tail _ (.head _)) (.head _) (.cons b1.out (.cons b2.out .nil)) (fun p hp => .tail _ (.tail _ (List.mem_append.mpr (.inl hp)))) hDk9.out (by omega) (by units_room) ?_
            simp only [List.isEmpty_cons, List.isEmpty_nil]
            k_steps
            unfold Stop
            rename News _ _ _ _ => N5; rename Fr _ _ _ _ => F5
            refine iter_listUnr (vs := [y1]) rfl F5 N5 (.head _) rfl rfl fun I hI => ?_
            refine ListRest.succ fun it h5 tk5 hit F6 N6 => ?_
            k_steps
            refine unr2 (by assumption) (by assumption) (by dsimp only; omega) (by dsimp only; omega) (fun p hp => Nat.ne_of_lt (hI p hp)) ⟨.tail _ (.tail _ (.head _)), ?_⟩
            refine ListRest.zero fun h5 tk5 F6 N6 => ?_
            k_steps
            rename_i N9 _ _
            refine hret.out _ ([_, _, _, _, _] ++ tl) _ _ (DatIn.tuple (.head _) (.cons (.str _ _) (.cons (.int _ _) (.cons (.tuple (.tail _ (.head _)) (.cons (b1.out.mono (fun p hp => List.mem_append.mpr (.inr hp))) (.cons (b2.out.mono (fun p hp => List.mem_append.mpr (.inr hp))) .nil))) .nil)))) (meant_abv hlt.out (List.forall_mem_cons.mpr ⟨by dsimp only; omega, List.forall_mem_cons.mpr ⟨by dsimp only; omega, List.forall_mem_cons.mpr ⟨by dsimp only; omega, List.forall_mem_cons.mpr ⟨by dsimp only; omega, List.forall_mem_cons.mpr ⟨by dsimp only; omega, List.forall_mem_nil _⟩⟩⟩⟩⟩) hab.out) (by assumption) (newsAssoc (a := [_, _, _, _, _]) N9)
          · have hDk9 := hDk.out
            simp only [Tr.meants] at hDk9
            replace hDk9 := Hid.mk hDk9
            clear hDk
            refine yargs3 (P := fun ys => News _ _ _ ((D, listOf ys.toArray e) :: _)) hD.out N8 ?_
            clear hD N8
            intro y1 y2 y3 N8 b1 b2 b3
            k_steps
            unfold Stop
            refine my_eq_nil (ds := [k1.meant, k2.meant, k3.meant]) (4 * (d - 1) + 4) (by assumption) (.tail _ (.head _)) (.head _) (.cons b1.out (.cons b2.out (.cons b3.out .nil))) (fun p hp => .tail _ (.tail _ (List.mem_append.mpr (.inl hp)))) hDk9.out (by omega) (by units_room) ?_
            simp only [List.isEmpty_cons, List.isEmpty_nil]
            k_steps
            unfold Stop
            rename News _ _ _ _ => N5; rename Fr _ _ _ _ => F5
            refine iter_listUnr (vs := [y2, y1]) rfl F5 N5 (.head _) rfl rfl fun I hI => ?_
            refine ListRest.succ fun it h5 tk5 hit F6 N6 => ?_
            k_steps
            refine unr2 (by assumption) (by assumption) (by dsimp only; omega) (by dsimp only; omega) (fun p hp => Nat.ne_of_lt (hI p hp)) ⟨.tail _ (.tail _ (.head _)), ?_⟩
            refine ListRest.succ fun it h5 tk5 hit F6 N6 => ?_
            k_steps
            refine unr2 (by assumption) (by assumption) (by dsimp only; omega) (by dsimp only; omega) (List.forall_mem_cons.mpr ⟨by k_ne, List.forall_mem_cons.mpr ⟨by k_ne, (fun p hp => Nat.ne_of_lt (hI p hp))⟩⟩) ⟨.tail _ (.tail _ (.tail _ (.tail _ (.head _)))), ?_⟩
            refine ListRest.zero fun h5 tk5 F6 N6 => ?_
            k_steps
            rename_i N9 _ _
            refine hret.out _ ([_, _, _, _, _, _, _] ++ tl) _ _ (DatIn.tuple (.head _) (.cons (.str _ _) (.cons (.int _ _) (.cons (.tuple (.tail _ (.head _)) (.cons (b1.out.mono (fun p hp => List.mem_append.mpr (.inr hp))) (.cons (DatIn.tuple (.tail _ (.tail _ (.head _))) (.cons (.str _ _) (.cons (.int _ _) (.cons (.tuple (.tail _ (.tail _ (.tail _ (.head _)))) (.cons (b2.out.mono (fun p hp => List.mem_append.mpr (.inr hp))) (.cons (b3.out.mono (fun p hp => List.mem_append.mpr (.inr hp))) .nil))) .nil)))) .nil))) .nil)))) (meant_abv hlt.out (List.forall_mem_cons.mpr ⟨by dsimp only; omega, List.forall_mem_cons.mpr ⟨by dsimp only; omega, List.forall_mem_cons.mpr ⟨by dsimp only; omega, List.forall_mem_cons.mpr ⟨by dsimp only; omega, List.forall_mem_cons.mpr ⟨by dsimp only; omega, List.forall_mem_cons.mpr ⟨by dsimp only; omega, List.forall_mem_cons.mpr ⟨by dsimp only; omega, List.forall_mem_nil _⟩⟩⟩⟩⟩⟩⟩) hab.out) (by assumption) (newsAssoc (a := [_, _, _, _, _, _, _]) N9)
        · rename Fr _ _ _ _ => F8
          dsimp only [Wd.str] at F8 hn1
          simp only [Wd.arity, Bool.and_eq_true, decide_eq_true_eq] at har
          rcases three (l := ks) har.2 with rfl | ⟨k1, rfl⟩ | ⟨k1, k2, rfl⟩ | ⟨k1, k2, k3, rfl⟩
          · simp at har
          · have hDk9 := hDk.out
            simp only [Tr.meants] at hDk9
            replace hDk9 := Hid.mk hDk9
            clear hDk
            refine yargs1 (P := fun ys => News _ _ _ ((D, listOf ys.toArray e) :: _)) hD.out N8 ?_
            clear hD N8
            intro y1 N8 b1
            k_steps
            unfold Stop
            refine my_eq_nil (ds := [k1.meant]) (4 * (d - 1) + 4) (by assumption) (.tail _ (.head _)) (.head _) (.cons b1.out .nil) (fun p hp => .tail _ (.tail _ (List.mem_append.mpr (.inl hp)))) hDk9.out (by omega) (by units_room) ?_
            simp only [List.isEmpty_cons, List.isEmpty_nil]
            k_steps
            unfold Stop
            rename News _ _ _ _ => N5; rename Fr _ _ _ _ => F5
            refine iter_listUnr (vs := []) rfl F5 N5 (.head _) rfl rfl fun I hI => ?_
            refine ListRest.zero fun h5 tk5 F6 N6 => ?_
            k_steps
            rename_i N9 _ _
            refine hret.out _ ([_, _, _] ++ tl) _ _ (b1.out.mono (fun p hp => List.mem_append.mpr (.inr hp))) (meant_abv hlt.out (List.forall_mem_cons.mpr ⟨by dsimp only; omega, List.forall_mem_cons.mpr ⟨by dsimp only; omega, List.forall_mem_cons.mpr ⟨by dsimp only; omega, List.forall_mem_nil _⟩⟩⟩) hab.out) (by assumption) (newsAssoc (a := [_, _, _]) N9)
          · have hDk9 := hDk.out
            simp only [Tr.meants] at hDk9
            replace hDk9 := Hid.mk hDk9
            clear hDk
            refine yargs2 (P := fun ys => News _ _ _ ((D, listOf ys.toArray e) :: _)) hD.out N8 ?_
            clear hD N8
            intro y1 y2 N8 b1 b2
            k_steps
            unfold Stop
            refine my_eq_nil (ds := [k1.meant, k2.meant]) (4 * (d - 1) + 4) (by assumption) (.tail _ (.head _)) (.head _) (.cons b1.out (.cons b2.out .nil)) (fun p hp => .tail _ (.tail _ (List.mem_append.mpr (.inl hp)))) hDk9.out (by omega) (by units_room) ?_
            simp only [List.isEmpty_cons, List.isEmpty_nil]
            k_steps
            unfold Stop
            rename News _ _ _ _ => N5; rename Fr _ _ _ _ => F5
            refine iter_listUnr (vs := [y1]) rfl F5 N5 (.head _) rfl rfl fun I hI => ?_
            refine ListRest.succ fun it h5 tk5 hit F6 N6 => ?_
            k_steps
            refine unr2 (by assumption) (by assumption) (by dsimp only; omega) (by dsimp only; omega) (fun p hp => Nat.ne_of_lt (hI p hp)) ⟨.tail _ (.tail _ (.head _)), ?_⟩
            refine ListRest.zero fun h5 tk5 F6 N6 => ?_
            k_steps
            rename_i N9 _ _
            refine hret.out _ ([_, _, _, _, _] ++ tl) _ _ (DatIn.tuple (.head _) (.cons (.str _ _) (.cons (.int _ _) (.cons (.tuple (.tail _ (.head _)) (.cons (b1.out.mono (fun p hp => List.mem_append.mpr (.inr hp))) (.cons (b2.out.mono (fun p hp => List.mem_append.mpr (.inr hp))) .nil))) .nil)))) (meant_abv hlt.out (List.forall_mem_cons.mpr ⟨by dsimp only; omega, List.forall_mem_cons.mpr ⟨by dsimp only; omega, List.forall_mem_cons.mpr ⟨by dsimp only; omega, List.forall_mem_cons.mpr ⟨by dsimp only; omega, List.forall_mem_cons.mpr ⟨by dsimp only; omega, List.forall_mem_nil _⟩⟩⟩⟩⟩) hab.out) (by assumption) (newsAssoc (a := [_, _, _, _, _]) N9)
          · have hDk9 := hDk.out
            simp only [Tr.meants] at hDk9
            replace hDk9 := Hid.mk hDk9
            clear hDk
            refine yargs3 (P := fun ys => News _ _ _ ((D, listOf ys.toArray e) :: _)) hD.out N8 ?_
            clear hD N8
            intro y1 y2 y3 N8 b1 b2 b3
            k_steps
            unfold Stop
            refine my_eq_nil (ds := [k1.meant, k2.meant, k3.meant]) (4 * (d - 1) + 4) (by assumption) (.tail _ (.head _)) (.head _) (.cons b1.out (.cons b2.out (.cons b3.out .nil))) (fun p hp => .tail _ (.tail _ (List.mem_append.mpr (.inl hp)))) hDk9.out (by omega) (by units_room) ?_
            simp only [List.isEmpty_cons, List.isEmpty_nil]
            k_steps
            unfold Stop
            rename News _ _ _ _ => N5; rename Fr _ _ _ _ => F5
            refine iter_listUnr (vs := [y2, y1]) rfl F5 N5 (.head _) rfl rfl fun I hI => ?_
            refine ListRest.succ fun it h5 tk5 hit F6 N6 => ?_
            k_steps
            refine unr2 (by assumption) (by assumption) (by dsimp only; omega) (by dsimp only; omega) (fun p hp => Nat.ne_of_lt (hI p hp)) ⟨.tail _ (.tail _ (.head _)), ?_⟩
            refine ListRest.succ fun it h5 tk5 hit F6 N6 => ?_
            k_steps
            refine unr2 (by assumption) (by assumption) (by dsimp only; omega) (by dsimp only; omega) (List.forall_mem_cons.mpr ⟨by k_ne, List.forall_mem_cons.mpr ⟨by k_ne, (fun p hp => Nat.ne_of_lt (hI p hp))⟩⟩) ⟨.tail _ (.tail _ (.tail _ (.tail _ (.head _)))), ?_⟩
            refine ListRest.zero fun h5 tk5 F6 N6 => ?_
            k_steps
            rename_i N9 _ _
            refine hret.out _ ([_, _, _, _, _, _, _] ++ tl) _ _ (DatIn.tuple (.head _) (.cons (.str _ _) (.cons (.int _ _) (.cons (.tuple (.tail _ (.head _)) (.cons (b1.out.mono (fun p hp => List.mem_append.mpr (.inr hp))) (.cons (DatIn.tuple (.tail _ (.tail _ (.head _))) (.cons (.str _ _) (.cons (.int _ _) (.cons (.tuple (.tail _ (.tail _ (.tail _ (.head _)))) (.cons (b2.out.mono (fun p hp => List.mem_append.mpr (.inr hp))) (.cons (b3.out.mono (fun p hp => List.mem_append.mpr (.inr hp))) .nil))) .nil)))) .nil))) .nil)))) (meant_abv hlt.out (List.forall_mem_cons.mpr ⟨by dsimp only; omega, List.forall_mem_cons.mpr ⟨by dsimp only; omega, List.forall_mem_cons.mpr ⟨by dsimp only; omega, List.forall_mem_cons.mpr ⟨by dsimp only; omega, List.forall_mem_cons.mpr ⟨by dsimp only; omega, List.forall_mem_cons.mpr ⟨by dsimp only; omega, List.forall_mem_cons.mpr ⟨by dsimp only; omega, List.forall_mem_nil _⟩⟩⟩⟩⟩⟩⟩) hab.out) (by assumption) (newsAssoc (a := [_, _, _, _, _, _, _]) N9)
        · rename Fr _ _ _ _ => F8
          dsimp only [Wd.str] at F8 hn1
          simp only [Wd.arity, beq_iff_eq] at har
          obtain ⟨k1, k2, rfl⟩ : ∃ k1 k2, ks = [k1, k2] := by
            match ks, har with
            | [k1, k2], _ => exact ⟨k1, k2, rfl⟩
          have hDk9 := hDk.out
          simp only [Tr.meants] at hDk9
          replace hDk9 := Hid.mk hDk9
          clear hDk
          refine yargs2 (P := fun ys => News _ _ _ ((D, listOf ys.toArray e) :: _)) hD.out N8 ?_
          clear hD N8
          intro y1 y2 N8 b1 b2
          k_steps
          rename_i N9 _ _
          refine hret.out _ ([_, _, _] ++ tl) _ _ (DatIn.tuple (.head _) (.cons (.str _ _) (.cons (.int _ _) (.cons (.tuple (.tail _ (.head _)) (.cons (b1.out.mono (fun p hp => List.mem_append.mpr (.inr hp))) (.cons (b2.out.mono (fun p hp => List.mem_append.mpr (.inr hp))) .nil))) .nil)))) (meant_abv hlt.out (List.forall_mem_cons.mpr ⟨by dsimp only; omega, List.forall_mem_cons.mpr ⟨by dsimp only; omega, List.forall_mem_cons.mpr ⟨by dsimp only; omega, List.forall_mem_nil _⟩⟩⟩) hab.out) (by assumption) (newsAssoc (a := [_, _, _]) N9)
        · rename Fr _ _ _ _ => F8
          dsimp only [Wd.str] at F8 hn1
          simp only [Wd.arity, beq_iff_eq] at har
          obtain ⟨k1, rfl⟩ : ∃ k1, ks = [k1] := by
            match ks, har with
            | [k1], _ => exact ⟨k1, rfl⟩
          have hDk9 := hDk.out
          simp only [Tr.meants] at hDk9
          replace hDk9 := Hid.mk hDk9
          clear hDk
          refine yargs1 (P := fun ys => News _ _ _ ((D, listOf ys.toArray e) :: _)) hD.out N8 ?_
          clear hD N8
          intro y1 N8 b1
          k_steps
          rename_i N9 _ _
          refine hret.out _ ([_, _, _] ++ tl) _ _ (DatIn.tuple (.head _) (.cons (.str _ _) (.cons (.int _ _) (.cons (.tuple (.tail _ (.head _)) (.cons (b1.out.mono (fun p hp => List.mem_append.mpr (.inr hp))) .nil)) .nil)))) (meant_abv hlt.out (List.forall_mem_cons.mpr ⟨by dsimp only; omega, List.forall_mem_cons.mpr ⟨by dsimp only; omega, List.forall_mem_cons.mpr ⟨by dsimp only; omega, List.forall_mem_nil _⟩⟩⟩) hab.out) (by assumption) (newsAssoc (a := [_, _, _]) N9)
theorem meant_ok (w : World) (mean : ExcName → Option Value) (mg mb : Str → Option Value) : ∀ (d : Nat), MeantOk w mean mg mb d := by
  intro d
  induction d with
  | zero => exact meant_step w mean mg mb 0 fun h => absurd h (Nat.lt_irrefl _)
  | succ d ih => exact meant_step w mean mg mb (d + 1) fun _ => ih
end
section
section
variable {prog : Program} {w : World} {A : Around} {E : Value → Shared → Prop} {s : Shared} {env : Env} {h₀ : Heap} {x : Str} {body : List Stmt} {Q : Flow → Shared → Prop}
/-- the end of a turn -/
def ForEnd (h₀ : Heap) (L : Addr) (Wr : List Addr) (own nx : List (Addr × Obj)) (J : (Str → Option Value) → List (Addr × Obj) → Prop) (s₁ s₂ : Shared) : Prop :=
  ∃ h' tk m' nx', s₂ = { s₁ with heap := h', toks := tk } ∧ Fr h₀ L h' m' ∧ News h₀ L h' (own ++ nx') ∧ (∀ p ∈ nx', p ∈ nx ∨ p.1 ∈ Wr ∨ ∀ q ∈ own, q.1 < p.1) ∧ J m' nx'
def ForPost (h₀ : Heap) (L : Addr) (Wr : List Addr) (own nx : List (Addr × Obj)) (J : (Str → Option Value) → List (Addr × Obj) → Prop) (s₁ : Shared) (Q : Flow → Shared → Prop) (f : Flow) (s₂ : Shared) : Prop :=
  match f with
  | .ret v => Q (.ret v) s₂
  | .brk => Q .next s₂
  | _ => ForEnd h₀ L Wr own nx J s₁ s₂

theorem for_core {I : Addr} {fp wr Wr : List Addr} {n : Nat} {P : Nat → Value → Prop} {St : Nat → Heap → Prop} {m₀ : Str → Option Value} {news : List (Addr × Obj)} (J : Nat → (Str → Option Value) → List (Addr × Obj) → Prop)
    (W : Walks prog w A I fp wr n P St) (hst : St 0 s.heap) (hlive : ∀ i h, St i h → ∀ b ∈ fp, ∃ o, h.get? b = some o)
    (hfpn : ∀ b ∈ fp, b ≠ env.locals ∧ h₀.get? b = none ∧ b ∉ Wr) (hwr : ∀ p ∈ news, p.1 ∉ wr)
    (F : Fr h₀ env.locals s.heap m₀) (N : News h₀ env.locals s.heap news) (hj : J 0 m₀ news)
    (turn : ∀ i v m nx h tk own, i < n → P i v → J i m nx → Fr h₀ env.locals h (fun y => if y = x then some v else m y) → News h₀ env.locals h (own ++ nx) → (∀ p ∈ own, p.1 ∉ Wr) →
      wpAny (model prog w) A (execs body env) (ForPost h₀ env.locals Wr own nx (J (i + 1)) { s with heap := h, toks := tk } Q) E { s with heap := h, toks := tk })
    (done : ∀ m nx h tk, J n m nx → Fr h₀ env.locals h m → News h₀ env.locals h nx → Q .next { s with heap := h, toks := tk }) :
    LoopAtV prog w A h₀ env x body Q E (.ref I) s := by
  refine ⟨I, fp, wr, n, P, St, m₀, news, J, rfl, W, fun h => (hfpn _ h).1 rfl, fun b hb => (hfpn _ (W.sub _ hb)).2.1, hwr, hst, F, N, hj, ?_, ?_⟩
  · rintro i v m₁ nx s₁ own ⟨h, tk, rfl⟩ hin hP hJ hoff hown hget hall hst' F₁ N₁
    have hOW : ∀ p ∈ own, p.1 ∉ Wr := fun p hp => (hfpn _ (hown p hp)).2.2
    refine wpAny_mono (turn i v m₁ nx h tk own hin hP hJ F₁ N₁ hOW) (fun f s₂ p => ?_) fun _ _ e => e
    have fin : ForEnd h₀ env.locals Wr own nx (J (i + 1)) { s with heap := h, toks := tk } s₂ → LoopStepU h₀ env.locals wr own (J (i + 1)) { s with heap := h, toks := tk } .next s₂ := by
      rintro ⟨h', tk', m', nx', e, F', N', hab, hJ'⟩
      refine ⟨rfl, h', tk', m', nx', e, F', N', fun p hp hm => ?_, hJ'⟩
      rcases hab p hp with h1 | h1 | h1
      · exact hoff p h1 hm
      · exact (hfpn _ (W.sub _ hm)).2.2 h1
      · obtain ⟨o, ho⟩ := hlive _ _ hst' _ (W.sub _ hm)
        exact Nat.lt_irrefl _ (h1 (p.1, o) (hall _ (W.sub _ hm) (hfpn _ (W.sub _ hm)).2.1 o ho))
    cases f with
    | ret v => exact .ret p
    | brk => exact .brk p
    | next => exact .next (fin p)
    | cont => exact .cont (fin p)
  · intro h' tk m' news' F' N' _ hJ
    exact done m' news' h' tk hJ F' N'

theorem for_list {l : Addr} {vs : List Value} {e₀ : Nat} {m₀ : Str → Option Value} {news : List (Addr × Obj)} (Wr : List Addr) (J : Nat → (Str → Option Value) → List (Addr × Obj) → Prop)
    (hh : A.handled = none) (hl : (l, listOf vs.toArray e₀) ∈ news) (hlW : l ∉ Wr) (hWr : ∀ b ∈ Wr, ∃ o, (b, o) ∈ news) (F : Fr h₀ env.locals s.heap m₀) (N : News h₀ env.locals s.heap news) (hj : J 0 m₀ news)
    (turn : ∀ i v m nx h tk own, vs[i]? = some v → J i m nx → Fr h₀ env.locals h (fun y => if y = x then some v else m y) → News h₀ env.locals h (own ++ nx) → (∀ p ∈ own, p.1 ∉ Wr) →
      wpAny (model prog w) A (execs body env) (ForPost h₀ env.locals Wr own nx (J (i + 1)) { s with heap := h, toks := tk } Q) E { s with heap := h, toks := tk })
    (done : ∀ m nx h tk, J vs.length m nx → Fr h₀ env.locals h m → News h₀ env.locals h nx → Q .next { s with heap := h, toks := tk }) :
    wpAny (model prog w) A (pyIter (.ref l)) (fun it s₂ => LoopAtV prog w A h₀ env x body Q E it s₂) E s := by
  have hls : s.heap.IsList l vs.toArray := ⟨_, (N _ hl).1, rfl, e₀, rfl⟩
  refine wpAny_pyIter_list hls ?_
  have hI : ∀ p ∈ news, p.1 ≠ s.heap.objs.size := fun p hp => Nat.ne_of_lt (Heap.lt_size (N p hp).1)
  have hne : l ≠ s.heap.objs.size := hI _ hl
  have W := Walks.list (prog := prog) (w := w) hh s.heap.objs.size l hne vs.toArray
  rw [List.size_toArray] at W
  refine for_core (s := { s with heap := s.heap.push _ }) (m₀ := m₀) (news := news) (Wr := Wr) J W ?_ ?_ ?_ ?_ (F.push _) (fun p hp => ⟨Heap.get?_push_of_some _ (N p hp).1, (N p hp).2⟩) hj ?_ ?_
  · exact ⟨⟨_, Heap.get?_push_size _ rfl, rfl, rfl⟩, hls.push _⟩
  · intro i h st b hb
    rcases List.mem_cons.mp hb with rfl | hb
    · obtain ⟨⟨o, ho, _⟩, _⟩ := st; exact ⟨o, ho⟩
    · rw [List.mem_singleton.mp hb]
      obtain ⟨_, ⟨o, ho, _⟩⟩ := st; exact ⟨o, ho⟩
  · intro b hb
    rcases List.mem_cons.mp hb with rfl | hb
    · refine ⟨Nat.ne_of_gt F.ns.lt, none_at_size F, fun hm => ?_⟩
      obtain ⟨o, ho⟩ := hWr _ hm
      exact hI _ ho rfl
    · rw [List.mem_singleton.mp hb]
      exact ⟨(N _ hl).2.1, (N _ hl).2.2, hlW⟩
  · intro p hp hm
    exact hI p hp (List.mem_singleton.mp hm)
  · intro i v m nx h tk own hi hv hJ F' N' ho
    exact turn i v m nx h tk own (by simpa using hv) hJ F' N' ho
  · exact done

theorem for_range {r : Addr} {a b c : Int} {t u v : Tok} {n : Nat} {m₀ : Str → Option Value} {news : List (Addr × Obj)} (Wr : List Addr) (J : Nat → (Str → Option Value) → List (Addr × Obj) → Prop)
    (hr : IsRange s.heap r a b c t u v) (hsm : Builtin.Range.small a b c = true) (hn : Builtin.Range.rangeSize a b c = (n : Int))
    (hh : A.handled = none) (hWr : ∀ b ∈ Wr, ∃ o, (b, o) ∈ news) (F : Fr h₀ env.locals s.heap m₀) (N : News h₀ env.locals s.heap news) (hj : J 0 m₀ news)
    (turn : ∀ i tk' m nx h tk own, i < n → J i m nx → Fr h₀ env.locals h (fun y => if y = x then some (.int (a + (i : Int) * c) tk') else m y) → News h₀ env.locals h (own ++ nx) → (∀ p ∈ own, p.1 ∉ Wr) →
      wpAny (model prog w) A (execs body env) (ForPost h₀ env.locals Wr own nx (J (i + 1)) { s with heap := h, toks := tk } Q) E { s with heap := h, toks := tk })
    (done : ∀ m nx h tk, J n m nx → Fr h₀ env.locals h m → News h₀ env.locals h nx → Q .next { s with heap := h, toks := tk }) :
    wpAny (model prog w) A (pyIter (.ref r)) (fun it s₂ => LoopAtV prog w A h₀ env x body Q E it s₂) E s := by
  refine wpAny_pyIter_range hr hsm ?_
  rw [hn]
  have hI : ∀ p ∈ news, p.1 ≠ s.heap.objs.size := fun p hp => Nat.ne_of_lt (Heap.lt_size (N p hp).1)
  refine for_core (s := { s with heap := s.heap.push _ }) (m₀ := m₀) (news := news) (Wr := Wr) J (Walks.range hh s.heap.objs.size a c n) ?_ ?_ ?_ ?_ (F.push _) (fun p hp => ⟨Heap.get?_push_of_some _ (N p hp).1, (N p hp).2⟩) hj ?_ ?_
  · show IsRangeIter _ _ _ _ _
    simp only [Int.natCast_zero, Int.zero_mul, Int.add_zero, Int.sub_zero]
    exact Heap.get?_push_size _ rfl
  · intro i h st b hb
    rw [List.mem_singleton.mp hb]
    exact ⟨_, st⟩
  · intro b hb
    rw [List.mem_singleton.mp hb]
    refine ⟨Nat.ne_of_gt F.ns.lt, none_at_size F, fun hm => ?_⟩
    obtain ⟨o, ho⟩ := hWr _ hm
    exact hI _ ho rfl
  · intro p hp hm
    exact hI p hp (List.mem_singleton.mp hm)
  · rintro i v m nx h tk own hi ⟨t', rfl⟩ hJ F' N' ho
    exact turn i t' m nx h tk own hi hJ F' N' ho
  · exact done
end
theorem range_down {k : Nat} : Builtin.Range.rangeSize ((k : Int) - 1) (-1) (-1) = (k : Int) := by
  unfold Builtin.Range.rangeSize
  simp
  omega
theorem range_down_small {k : Nat} (h : k ≤ 100000) : Builtin.Range.small ((k : Int) - 1) (-1) (-1) = true := by
  unfold Builtin.Range.small
  rw [range_down]
  simp [Builtin.Range.rangeFitsLong]
  omega
end
section
/-- a dict of int keys, what it holds, its size's bound -/
def DictI (o : Obj) (f : Int → Option Value) (n : Nat) : Prop := o.cls = .type "dict" ∧ ∃ es ep, o.data = .dict es ep ∧ IntKeys es ∧ (∀ k, findBy Value.isInt es k = f k) ∧ es.size ≤ n
section
variable {prog : Program} {w : World} {A : Around} {E : Value → Shared → Prop} {s : Shared} {h₀ h : Heap} {L D : Addr} {m : Str → Option Value} {news news' : List (Addr × Obj)} {us : List Value} {n : Nat} {k : Int} {t : Tok} {v : Value}
theorem my_pop {Q : Value → Shared → Prop} (F : Fr h₀ L s.heap m) (N : News h₀ L s.heap news) (U : Upd D (listOf (us ++ [v]).toArray n) (listOf us.toArray (n + 1)) news news') (hz : us.length ≤ 1000000)
    (h : ∀ h', Fr h₀ L h' m → News h₀ L h' news' → Q v { s with heap := h' }) : wpAny (model prog w) A (call (.builtin "list.pop") [.ref D]) Q E s := by
  refine kl_pop F N (p := us) (y := v) ?_ U (by simp [sizeLine_eq]; omega) h
  have e := kpa_last v us
  simpa using e
theorem my_item {Q : Value → Shared → Prop} (N : News h₀ L s.heap news) (hm : (D, listOf us.toArray n) ∈ news) (h0 : 0 ≤ k) (hfit : k < 2 ^ 62) (hv : us[k.toNat]? = some v) (h : Q v s) : wpAny (model prog w) A (getItem (.ref D) (.int k t)) Q E s :=
  wpAny_getItem_list (PySem.IsL.isList (n := n) (N _ hm).1) h0 (by omega) (by simpa using hv) h
theorem my_sub {value slice : PySem.Expr} {Q : Value → Shared → Prop} (N : News h₀ L s.heap news) (hm : (D, listOf us.toArray n) ∈ news) (h0 : 0 ≤ k) (hfit : k < 2 ^ 62) (hv : us[k.toNat]? = some v) (h : Q v s)
    (hs : subscripted slice false (.ref D) (.int k t) = operate [.ref D, .int k t] (getItem (.ref D) (.int k t)) := by with_unfolding_all rfl) :
    wpAny (model prog w) A (subscriptTail value slice (.ref D) (.int k t)) Q E s :=
  tail_any (PySem.IsL.isList (n := n) (N _ hm).1).typeIs slot_list_getitem.lookup (my_item N hm h0 hfit hv h) hs
theorem my_set {Q : Unit → Shared → Prop} (F : Fr h₀ L s.heap m) (N : News h₀ L s.heap news) (U : Upd D (listOf us.toArray n) (listOf (us.set k.toNat v).toArray n) news news') (h0 : 0 ≤ k) (hfit : k < 2 ^ 62) (hlt : k.toNat < us.length)
    (h : ∀ h', Fr h₀ L h' m → News h₀ L h' news' → Q () { s with heap := h' }) : wpAny (model prog w) A (setItem (.ref D) (.int k t) v) Q E s := by
  obtain ⟨pre, post, rfl, rfl, a, b⟩ := U.split
  have z := N (D, listOf us.toArray n) (List.mem_append.mpr (.inr (.head _)))
  refine ki_setAt z.1 h0 (by omega) (by simp; omega) (h _ (F.change (Heap.SameBut.update ..) z.2.1 z.2.2) (ki_turn _ N a b ?_ ?_))
  · show us.toArray.setIfInBounds k.toNat v = (us.set k.toNat v).toArray
    apply Array.toList_inj.mp
    simp
  · simp
theorem dictI_map {o : Obj} {f : Int → Option Value} (N : News h₀ L h news) (hm : (D, o) ∈ news) (d : DictI o f n) : h.IntMap D f ∧ h.DictLe D n := by
  obtain ⟨hc, es, ep, hd, hk, hf, hs⟩ := d
  refine ⟨⟨o, es, ep, (N _ hm).1, hc, hd, hk, hf⟩, fun o' es' ep' ho hd' => ?_⟩
  rw [(N _ hm).1] at ho
  cases ho
  rw [hd] at hd'
  cases hd'
  exact hs
theorem my_dget {o : Obj} {f : Int → Option Value} {Q : Value → Shared → Prop} (N : News h₀ L s.heap news) (hm : (D, o) ∈ news) (d : DictI o f n) (hv : f k = some v) (h : Q v { s with toks := s.toks + 1 }) : wpAny (model prog w) A (getItem (.ref D) (.int k t)) Q E s :=
  wpAny_getItem_intMap (dictI_map N hm d).1 hv h
theorem my_dsub {o : Obj} {f : Int → Option Value} {value slice : PySem.Expr} {Q : Value → Shared → Prop} (N : News h₀ L s.heap news) (hm : (D, o) ∈ news) (d : DictI o f n) (hv : f k = some v) (h : Q v { s with toks := s.toks + 1 })
    (hs : subscripted slice false (.ref D) (.int k t) = operate [.ref D, .int k t] (getItem (.ref D) (.int k t)) := by with_unfolding_all rfl) :
    wpAny (model prog w) A (subscriptTail value slice (.ref D) (.int k t)) Q E s :=
  tail_any (dictI_map N hm d).1.typeIs slot_dict_getitem.lookup (my_dget N hm d hv h) hs
theorem my_dset {o : Obj} {f : Int → Option Value} {g : Obj → List (Addr × Obj)} {Q : Unit → Shared → Prop} (F : Fr h₀ L s.heap m) (N : News h₀ L s.heap news) (U : UpdF D o news g) (d : DictI o f n) (hn : n ≤ 1000000)
    (h : ∀ h' o', Fr h₀ L h' m → News h₀ L h' (g o') → DictI o' (fun x => if x = k then some v else f x) (n + 1) → Q () { s with heap := h', toks := s.toks + 1 }) : wpAny (model prog w) A (setItem (.ref D) (.int k t) v) Q E s := by
  obtain ⟨pre, post, rfl, hg, a, b⟩ := U.split
  have hmem : (D, o) ∈ pre ++ (D, o) :: post := List.mem_append_right _ (.head _)
  have z := N _ hmem
  obtain ⟨hI, hle⟩ := dictI_map N hmem d
  refine wpAny_setItem_intMap_le hI hle (by rw [sizeLine_eq]; omega) fun h' hI' hle' hs => ?_
  obtain ⟨o', es, ep, ho', hc, hd, hk, hf⟩ := id hI'
  exact h h' o' (F.change hs z.2.1 z.2.2) (hg o' ▸ N.setIn a b hs ho') ⟨hc, es, ep, hd, hk, hf, hle' _ _ _ ho' hd⟩
theorem dict_live {o : Obj} {es : Array DictEntry} {ep : Nat} (hd : o.data = .dict es ep) : o.isFreed = false := by
  obtain ⟨c, d, dt, sl⟩ := o
  cases hd
  rfl
theorem dictI_of {o : Obj} {kvs : List (Int × Value)} (x : o.IsDictOf (PySem.intKind prog w) kvs) : DictI o (valueAt kvs) kvs.length := by
  have e0 : (Heap.push { objs := #[] } o).get? 0 = some o := by
    obtain ⟨es, ep, hc, hd, _⟩ := x
    exact Heap.get?_push_size { objs := #[] } (dict_live hd)
  have hd : (Heap.push { objs := #[] } o).DictOf (PySem.intKind prog w) 0 kvs := Heap.dictOf_iff.mpr ⟨o, e0, x⟩
  obtain ⟨o', es, ep, ho, hc, hdd, hk, hf⟩ := Heap.MapOf.intMap hd.mapOf
  rw [e0] at ho
  cases ho
  obtain ⟨es2, ep2, hec, hed, hek, hep, _⟩ := x
  rw [hed] at hdd
  cases hdd
  refine ⟨hc, es, ep, hed, hk, hf, ?_⟩
  have := hep.length
  have e2 : es.toList.length = es.size := by simp
  omega
end
end
section
abbrev frMap {h₀ h : Heap} {L : Addr} {m : Str → Option Value} (_ : Fr h₀ L h m) : Str → Option Value := m
def partDat (p : Dat × Dat × Dat) : Dat := .tuple [p.1, p.2.1, p.2.2]
def goalDat (d : Dat) : Dat := .tuple [.str (PySem.Str.ofString "goal"), d]
def waitDat (n : Nat) (p : Dat × Dat × Dat) : Dat := .tuple [.int (n : Int), p.1, p.2.1, p.2.2]
def waits : Nat → List (Dat × Dat × Dat) → List Dat
  | _, [] => []
  | n, p :: r => waits (n + 1) r ++ [waitDat n p]
def countFrom : Nat → Nat → List Dat
  | _, 0 => []
  | n, k + 1 => countFrom n k ++ [.int ((n + k : Nat) : Int)]
theorem countFrom_length (n : Nat) : ∀ k, (countFrom n k).length = k
  | 0 => rfl
  | k + 1 => by simp [countFrom, countFrom_length n k]
theorem countFrom_get (n : Nat) : ∀ k i, i < k → (countFrom n k)[i]? = some (.int ((n + i : Nat) : Int))
  | 0, i, h => absurd h (Nat.not_lt_zero _)
  | k + 1, i, h => by
    rw [countFrom]
    by_cases hi : i < k
    · rw [List.getElem?_append_left (by rw [countFrom_length]; exact hi)]
      exact countFrom_get n k i hi
    · have : i = k := by omega
      subst this
      rw [List.getElem?_append_right (by rw [countFrom_length]; omega), countFrom_length]
      simp
theorem waits_drop {ps : List (Dat × Dat × Dat)} {n j : Nat} {p : Dat × Dat × Dat} (h : ps[j]? = some p) : waits (n + j) (ps.drop j) = waits (n + (j + 1)) (ps.drop (j + 1)) ++ [waitDat (n + j) p] := by
  have hlt : j < ps.length := by
    have := List.getElem?_eq_some_iff.mp h
    exact this.1
  have e : ps.drop j = p :: ps.drop (j + 1) := by
    rw [List.drop_eq_getElem_cons hlt]
    congr 1
    exact Option.some.inj ((List.getElem?_eq_getElem hlt).symm.trans h)
  rw [e, waits, Nat.add_assoc]
theorem datAll_at {news : List (Addr × Obj)} {vs : List Value} {ds : List Dat} (h : DatAll news vs ds) {i : Nat} {v : Value} (hv : vs[i]? = some v) : ∃ d, ds[i]? = some d ∧ DatIn news v d := by
  have hlt : i < vs.length := (List.getElem?_eq_some_iff.mp hv).1
  obtain ⟨u, hu, hd⟩ := h.get (k := i) (by rw [← h.length]; exact hlt)
  rw [hv] at hu
  cases hu
  exact ⟨_, List.getElem?_eq_getElem _, hd⟩
theorem datAll_at' {news : List (Addr × Obj)} {vs : List Value} {ds : List Dat} (h : DatAll news vs ds) {i : Nat} {d : Dat} (hv : ds[i]? = some d) : ∃ v, vs[i]? = some v ∧ DatIn news v d := by
  have hlt : i < ds.length := (List.getElem?_eq_some_iff.mp hv).1
  obtain ⟨u, hu, hd⟩ := h.get (k := i) hlt
  refine ⟨u, hu, ?_⟩
  have : ds[i] = d := Option.some.inj ((List.getElem?_eq_getElem hlt).symm.trans hv)
  rw [← this]; exact hd

/-- the object, its dict, its two lists -/
abbrev treeIs (x dx nl wl : Addr) (hh1 hh2 : Int) (t1 t2 : Tok) (nd : Nat) (nvs wvs : List Value) (e1 e2 : Nat) (r : List (Addr × Obj)) : List (Addr × Obj) :=
  (x, instObj 57 dx) :: (dx, dictOf [⟨hh1, .str (PySem.Str.ofString "nodes") t1, .ref nl⟩, ⟨hh2, .str (PySem.Str.ofString "waiting") t2, .ref wl⟩] nd) :: (nl, listOf nvs.toArray e1) :: (wl, listOf wvs.toArray e2) :: r

/-- the first loop of hold -/
def HJ1 (m₀ : Str → Option Value) (ca x dx nl wl : Addr) (hh1 hh2 : Int) (t1 t2 : Tok) (nd : Nat) (wvs : List Value) (e2 : Nat) (rest pool : List (Addr × Obj)) (Nd : List Dat) (ps : List (Dat × Dat × Dat)) (i : Nat) (m : Str → Option Value) (nx : List (Addr × Obj)) : Prop :=
  ∃ (u : Str → Option Value) (nvs : List Value) (e1 : Nat) (cvs : List Value) (ec : Nat) (tl : List (Addr × Obj)), m = (fun y => if y = PySem.Str.ofString "part" then u y else m₀ y) ∧ nx = (ca, listOf (List.toArray cvs) ec) :: treeIs x dx nl wl hh1 hh2 t1 t2 nd nvs wvs e1 e2 (tl ++ rest) ∧
    DatAll (tl ++ pool) nvs (Nd ++ (ps.take i).map fun p => goalDat p.1) ∧ DatAll [] cvs (countFrom Nd.length i) ∧ (∀ p ∈ tl, @LT.lt Nat _ ca p.1 ∧ @LT.lt Nat _ nl p.1 ∧ @LT.lt Nat _ wl p.1 ∧ ∀ q ∈ rest, q.1 < p.1)
/-- the second loop of hold -/
def HJ2 (m₀ : Str → Option Value) (ca x dx nl wl : Addr) (hh1 hh2 : Int) (t1 t2 : Tok) (nd : Nat) (nvs : List Value) (e1 : Nat) (cvs : List Value) (ec : Nat) (rest pool : List (Addr × Obj)) (n : Nat) (Wd : List Dat) (ps : List (Dat × Dat × Dat)) (i : Nat) (m : Str → Option Value) (nx : List (Addr × Obj)) : Prop :=
  ∃ (u : Str → Option Value) (wvs : List Value) (e2 : Nat) (tl : List (Addr × Obj)), m = (fun y => if y = PySem.Str.ofString "at" then u y else m₀ y) ∧ nx = (ca, listOf (List.toArray cvs) ec) :: treeIs x dx nl wl hh1 hh2 t1 t2 nd nvs wvs e1 e2 (tl ++ rest) ∧
    DatAll (tl ++ pool) wvs (Wd ++ waits (n + (ps.length - i)) (ps.drop (ps.length - i))) ∧ (∀ p ∈ tl, @LT.lt Nat _ ca p.1 ∧ @LT.lt Nat _ nl p.1 ∧ @LT.lt Nat _ wl p.1 ∧ ∀ q ∈ rest, q.1 < p.1)
theorem map1 {a : Str} {v : Option Value} {u m₀ : Str → Option Value} : (fun y => if y = a then v else if y = a then u y else m₀ y) = fun y => if y = a then (fun _ => v) y else m₀ y := by
  funext y
  by_cases h : y = a <;> simp [h]
theorem map0 {a : Str} {m₀ : Str → Option Value} : m₀ = fun y => if y = a then m₀ y else m₀ y := by
  funext y
  by_cases h : y = a <;> simp [h]
section
variable {prog : Program} {w : World} {A : Around} {E : Value → Shared → Prop} {s : Shared} {h₀ h : Heap} {L D : Addr} {m : Str → Option Value} {news news' : List (Addr × Obj)} {us : List Value} {n : Nat} {k : Int} {t : Tok} {v : Value}
theorem tup_of (N : News h₀ L h news) (hm : (D, ({ cls := .type "tuple", data := .seq us.toArray n } : Obj)) ∈ news) : IsTup h D us.toArray := ⟨_, (N _ hm).1, rfl, _, rfl⟩
theorem my_titem {j : Nat} {Q : Value → Shared → Prop} (N : News h₀ L s.heap news) (hm : (D, ({ cls := .type "tuple", data := .seq us.toArray n } : Obj)) ∈ news) (h0 : 0 ≤ k) (hfit : k < 2 ^ 62) (hj : seqIndex? k us.length = some j) (hv : us[j]? = some v) (h : Q v s) : wpAny (model prog w) A (getItem (.ref D) (.int k t)) Q E s :=
  getItem_tuple (tup_of N hm) (by omega) (by omega) (by simpa using hj) (by simpa using hv) h
theorem my_tsub {value slice : PySem.Expr} {j : Nat} {Q : Value → Shared → Prop} (N : News h₀ L s.heap news) (hm : (D, ({ cls := .type "tuple", data := .seq us.toArray n } : Obj)) ∈ news) (h0 : 0 ≤ k) (hfit : k < 2 ^ 62) (hj : seqIndex? k us.length = some j) (hv : us[j]? = some v) (h : Q v s)
    (hs : subscripted slice false (.ref D) (.int k t) = operate [.ref D, .int k t] (getItem (.ref D) (.int k t)) := by with_unfolding_all rfl) :
    wpAny (model prog w) A (subscriptTail value slice (.ref D) (.int k t)) Q E s :=
  tail_any (tup_of N hm).typeIs slot_tuple_getitem.lookup (my_titem N hm h0 hfit hj hv h) hs
theorem my_tadd {D' : Addr} {vs : List Value} {n' : Nat} {Q : Value → Shared → Prop} (F : Fr h₀ L s.heap m) (N : News h₀ L s.heap news) (ha : (D, ({ cls := .type "tuple", data := .seq us.toArray n } : Obj)) ∈ news) (hb : (D', ({ cls := .type "tuple", data := .seq vs.toArray n' } : Obj)) ∈ news) (h1 : us ≠ []) (h2 : vs ≠ []) (hz : us.length + vs.length ≤ 16384)
    (h : ∀ D h', Fr h₀ L h' m → News h₀ L h' ((D, ({ cls := .type "tuple", data := .seq (us ++ vs).toArray } : Obj)) :: news) → (∀ p ∈ news, p.1 < D) → Q (.ref D) { s with heap := h' }) : wpAny (model prog w) A (binaryOp .Add (.ref D) (.ref D')) Q E s :=
  kde_addT F N (tup_of N ha) (tup_of N hb) (by simpa using h1) (by simpa using h2) (by simpa using hz) (by simp) h
end
theorem hold_mem1 {D a b c d e p : Addr × Obj} {own tl rest : List (Addr × Obj)} (h : p ∈ own ++ (a :: b :: c :: d :: e :: ((D :: tl) ++ rest))) : p ∈ D :: a :: b :: c :: d :: e :: (tl ++ rest ++ own) := by
  simp only [List.mem_append, List.mem_cons, List.cons_append] at h ⊢
  rcases h with h | h | h | h | h | h | h | h | h <;> simp [h]
theorem hold_take {ps : List (Dat × Dat × Dat)} {i : Nat} {p : Dat × Dat × Dat} (h : ps[i]? = some p) : (ps.take (i + 1)).map (fun p => goalDat p.1) = (ps.take i).map (fun p => goalDat p.1) ++ [goalDat p.1] := by
  rw [List.take_add_one, h]
  simp
theorem hold_sub {D : Addr × Obj} {tl rest : List (Addr × Obj)} : ∀ p ∈ tl ++ rest, p ∈ (D :: tl) ++ rest := fun _ hp => .tail _ hp
theorem hold_mem2 {D D' a b c d e p : Addr × Obj} {own tl rest : List (Addr × Obj)} (h : p ∈ own ++ (a :: b :: c :: d :: e :: ((D :: tl) ++ rest))) : p ∈ D :: D' :: a :: b :: c :: d :: e :: (tl ++ rest ++ own) := by
  simp only [List.mem_append, List.mem_cons, List.cons_append] at h ⊢
  rcases h with h | h | h | h | h | h | h | h | h <;> simp [h]
theorem hold_mem3 {D a b c d e p : Addr × Obj} {tl tl2 rest : List (Addr × Obj)} (h : p ∈ b :: c :: d :: e :: ((D :: a :: (tl2 ++ tl)) ++ rest)) : p ∈ D :: a :: b :: c :: d :: e :: (tl2 ++ (tl ++ rest)) := by
  simp only [List.mem_append, List.mem_cons, List.cons_append] at h ⊢
  rcases h with h | h | h | h | h | h | (h | h) | h <;> simp [h]
end
section
set_option maxRecDepth 100000 in
set_option maxHeartbeats 8000000 in
theorem hold_ok (w : World) (mean : ExcName → Option Value) (mg mb : Str → Option Value) 
  (dp un : Nat) (gd : Option (List Code)) (cn : Str) (cs : Scope) (a : Addr) (ccd : Value) (cl : List (Str × Addr)) (outer : List Env) (A₀ : Around) (base h₀ : Heap) (L : Addr) (m : Str → Option Value) (s : Shared)
  (x dx nl wl pt : Addr) (hh1 hh2 : Int) (t1 t2 tw : Tok) (nd e1 e2 e3 : Nat) (nvs wvs pvs : List Value) (rest pool : List (Addr × Obj)) (wd : Str) (Nd Wd : List Dat) (ps : List (Dat × Dat × Dat)) (Q E : Value → Shared → Prop)
  (B : Below A₀ base outer h₀) (F : Fr h₀ L s.heap m) (X : (hd.heap_39 w.params).In h₀) (N : News h₀ L s.heap (treeIs x dx nl wl hh1 hh2 t1 t2 nd nvs wvs e1 e2 rest))
  (T : Top hd.view_39 (looseW hd.view_39 []) mean mg mb h₀) (hk : cs.kind = .function) 
  (hpt : (pt, listOf pvs.toArray e3) ∈ rest) (hsub : ∀ p ∈ pool, p ∈ rest) (hp : DatAll pool pvs (ps.map partDat)) (hn : DatAll pool nvs Nd) (hw : DatAll pool wvs Wd) (hps : ps.length ≤ 10) (hNl : Nd.length ≤ 1000) (hWl : Wd.length ≤ 1000)
  (hx1 : @Ne Nat nl x) (hx2 : @Ne Nat nl dx) (hx3 : @Ne Nat wl x) (hx4 : @Ne Nat wl dx) (hx5 : @Ne Nat nl wl) (hr1 : ∀ p ∈ rest, p.1 ≠ nl) (hr2 : ∀ p ∈ rest, p.1 ≠ wl)
  (hd : dp ≤ 400) (hu : un ≤ 1000)
  (ret : ∀ r nvs' wvs' e1' e2' tl h' tk', DatIn tl r (.tuple [.str wd, .list (countFrom Nd.length ps.length)]) → DatAll (tl ++ pool) nvs' (Nd ++ ps.map fun p => goalDat p.1) → DatAll (tl ++ pool) wvs' (Wd ++ waits Nd.length ps) →
    (∀ p ∈ tl, @LT.lt Nat _ nl p.1 ∧ @LT.lt Nat _ wl p.1 ∧ ∀ q ∈ rest, q.1 < p.1) → Fr h₀ L h' m → News h₀ L h' (treeIs x dx nl wl hh1 hh2 t1 t2 nd nvs' wvs' e1' e2' (tl ++ rest)) → Q r { s with heap := h', toks := tk' }) :
   wpAny (model PySem.Challenge.rw_sa0140_01.row.prog w) (ktrTop dp un gd cn cs L a ccd cl outer) (call (.ref 49) [.ref x, .str wd tw, .ref pt]) Q E s := by
  dsimp only [treeIs] at N
  revert X
  w_top off
  k_with_none
  k_with "units_room" => (((have _ := cLine_is); simp only [units_in1, units_deeper, Around.mark_units, units_caller]; (try dsimp only [ktrTop]); omega))
  k_with "k_all" => (assumption)
  k_with "kpa_ne" => (exact pos_of_ne (by assumption) (by assumption))
  k_with "call builtin:list.reverse" => ((k_here; k_dflt (refine' my_reverse ?zF ?zN ?zU ?zz ?_; (case zF => k_asm); (case zN => k_asm); (case zU => k_upd); (case zz => ((simp only [sizeLine_eq, List.length_append, List.length_cons, List.length_nil]); first | omega | ((simp only [rangeKs_length] at *); omega)))); intro _ _ _; (try k_sweep)))
  k_with "call builtin:list.append" => ((k_here; (with_reducible show wpAny _ _ (call (Value.builtin _) [Value.ref _, _]) _ _ _); k_dflt (refine' my_append ?zF ?zN ?zU ?zz ?_; (case zF => k_asm); (case zN => k_asm); (case zU => k_upd); (case zz => ((simp only [sizeLine_eq, List.length_append, List.length_cons, List.length_nil]); first | omega | ((simp only [rangeKs_length] at *); omega)))); intro _ _ _; (try k_sweep)))
  k_with "call builtin:len" => ((k_here; (with_reducible show wpAny _ _ (call (Value.builtin "len") [Value.ref _]) _ _ _); k_dflt (refine' my_len ?zN ?zm ?zz ?_; (case zN => k_asm); (case zm => k_mem); (case zz => ((try simp only [List.length_append, List.length_cons, List.length_nil]); omega))); (try simp only [List.length_append, List.length_cons, List.length_nil])))
  k_with "k_room" => (((try simp only [depth_under_make, depth_under_kw, depth_in1, depth_deeper, depth_caller, recursionLimit]); (try dsimp only [ktrTop]); omega))
  k_with "k_units" => (units_room)
  k_with "k_enter" => (first
    | (refine' code_def ?ze1 ?ze2 ?ze3 ?ze4 ?ze5 ?ze6 ?ze7 ?ze8 ?ze9 ?ze10 ?ze11 ?ze12 ?ze13 ?_ ?ze14 ?ze15 ?ze16 ?ze17; (case ze6 => exact rfl); (case ze7 => exact rfl); (case ze8 => first | exact rfl | assumption); (case ze1 => k_asm); (case ze2 => k_asm); (case ze3 => k_asm); (case ze4 => k_asm); (case ze5 => k_asm); (case ze9 => k_is); (case ze10 => k_is); (case ze11 => k_room); (case ze12 => exact BindsTo.of_eq rfl); (case ze17 => decide); (case ze13 => exact locs rfl); (case ze14 => exact rfl); (case ze15 => exact rfl); (case ze16 => exact rfl); k_whole; intro _ _ _ _ _ _ _ _ _; (try dsimp only); (try k_fold))
    | (refine' code_defC ?ze1 ?ze2 ?ze3 ?ze4 ?ze5 ?ze6 ?ze7 ?ze8 ?ze9 ?ze10 ?ze11 ?ze12 ?ze13 ?ze14 ?_ ?ze15 ?ze16 ?ze17; (case ze6 => exact rfl); (case ze7 => exact rfl); (case ze8 => first | exact rfl | assumption); (case ze1 => k_asm); (case ze2 => k_asm); (case ze3 => k_asm); (case ze4 => k_asm); (case ze5 => k_asm); (case ze9 => k_is); (case ze10 => k_is); (case ze11 => k_room); (case ze12 => exact BindsTo.of_eq rfl); (case ze13 => exact rfl); (case ze14 => decide +kernel); (case ze15 => exact rfl); (case ze16 => exact rfl); (case ze17 => exact rfl); k_whole; intro _ _ _ _ _ _ _ N'z Y'z _ _ _ l1z; (try k_lt l1z); k_cells Y'z; (try simp only [List.cons_append, List.nil_append] at N'z); (try dsimp only); (try k_fold)))
  k_with "exec For" => ((k_here; (rename Fr _ _ _ _ => lF'z); (with_unfolding_all refine' For_invVF lF'z ?zk1 ?zk2 ?_; (case zk1 => exact rfl); (case zk2 => exact rfl); k_whole)))
  k_with "exec For Name Name cons nil" => ((k_here; (rename Fr _ _ _ _ => lF'z); (with_unfolding_all refine' For_invVF lF'z ?zk1 ?zk2 ?_; (case zk1 => exact rfl); (case zk2 => exact rfl); k_whole)))
  k_with "exec For Name Call cons nil" => ((k_here; (rename Fr _ _ _ _ => lF'z); (with_unfolding_all refine' For_invVF lF'z ?zk1 ?zk2 ?_; (case zk1 => exact rfl); (case zk2 => exact rfl); k_whole)))
  k_with "pyIter ref" => (((with_reducible show wpAny _ _ (pyIter (Value.ref _)) (fun it s₂ => LoopAtV _ _ _ _ _ _ _ _ _ it s₂) _ _); refine stopHere ?_))
  k_with "ForPost" => (refine stopHere ?_)
  k_with "k_mem" => (assumption)
  k_with "subscriptTail" => ((k_here; (with_reducible show wpAny _ _ (subscriptTail _ _ (Value.ref _) (Value.int _ _)) _ _ _); k_dflt (refine' my_tsub ?zN ?zm ?za ?zb ?zc ?zd ?_; (case zN => k_asm); (case zm => k_mem); (case za => decide); (case zb => decide); (case zc => rfl); (case zd => rfl); k_whole)))
  k_with "subscriptTail" => ((k_here; (with_reducible show wpAny _ _ (subscriptTail _ _ (Value.ref _) (Value.int (_ + _ * _) _)) _ _ _); refine stopHere ?_))
  k_with "binaryOp Add ref ref" => ((k_here; k_dflt (refine' my_tadd ?zF ?zN ?za ?zb ?zh1 ?zh2 ?zz ?_; (case zF => k_asm); (case zN => k_asm); (case za => k_mem); (case zb => k_mem); (case zh1 => exact List.cons_ne_nil _ _); (case zh2 => exact List.cons_ne_nil _ _); (case zz => decide)); intro _ _ _ _ l1z; (try k_lt l1z); (try k_sweep)))
  k_fill
  intro X
  have hpl := hp.length
  rw [List.length_map] at hpl
  refine wpAny_call ?_
  k_dflt k_enter
  refine toFalse ?_
  k_steps
  unfold Stop
  rename News _ _ _ _ => N5
  rename Fr _ _ _ _ => F5
  rename_i ca _ l9 _
  obtain ⟨lx, ld, ln, lw, lr⟩ := l9
  refine' for_list [ca, nl] (HJ1 (frMap F5) ca x dx nl wl hh1 hh2 t1 t2 nd wvs e2 rest pool Nd ps) rfl (.tail _ (.tail _ (.tail _ (.tail _ (.tail _ hpt))))) ?s1 ?s2 F5 N5 ⟨_, nvs, e1, [], _, [], map0, rfl, by simpa using hn, .nil, fun _ hp => nomatch hp⟩ ?turn ?done
  case s1 =>
    intro hm
    rcases List.mem_cons.mp hm with hm | hm
    · exact Nat.lt_irrefl _ (hm ▸ allLt_mem lr _ hpt)
    · exact hr1 _ hpt (List.mem_singleton.mp hm)
  case s2 =>
    intro b hb
    rcases List.mem_cons.mp hb with hb | hb
    · subst hb; exact ⟨_, .head _⟩
    · obtain rfl := List.mem_singleton.mp hb; exact ⟨_, .tail _ (.tail _ (.tail _ (.head _)))⟩
  case turn =>
    intro i v m nx h tk own hv hJ F8 N8 ho
    obtain ⟨u, nvs', e1', cvs, ec, tl, rfl, rfl, hnv, hcv, hab⟩ := hJ
    obtain ⟨d9, hd9, hv9⟩ := datAll_at hp hv
    rw [List.getElem?_map] at hd9
    obtain ⟨p9, hp9, rfl⟩ := Option.map_eq_some_iff.mp hd9
    have hi : i < ps.length := (List.getElem?_eq_some_iff.mp hp9).1
    have hln := hnv.length
    have hlc := hcv.length
    rw [countFrom_length] at hlc
    rw [List.length_append, List.length_map, List.length_take] at hln
    rw [partDat] at hv9
    cases hv9 with
    | tuple hm1 hr1 =>
    rename_i va vs1 te
    cases hr1 with
    | cons h1 hr1 =>
    cases hr1 with
    | cons h2 hr1 =>
    cases hr1 with
    | cons h3 hr1 =>
    cases hr1
    have N7 := newsMove N8
    simp only [List.cons_append, treeIs] at N7
    dsimp only at F8
    clear N8 N
    have hm2 := List.mem_append_left own (List.mem_append_right tl (hsub _ hm1))
    have hRc : ∀ p ∈ tl ++ rest ++ own, p.1 ≠ ca := by
      intro p hp
      rcases List.mem_append.mp hp with hp | hp
      · rcases List.mem_append.mp hp with hp | hp
        · exact Nat.ne_of_gt (hab p hp).1
        · exact Nat.ne_of_lt (allLt_mem lr _ hp)
      · exact fun e => ho p hp (e ▸ .head _)
    have hRn : ∀ p ∈ tl ++ rest ++ own, p.1 ≠ nl := by
      intro p hp
      rcases List.mem_append.mp hp with hp | hp
      · rcases List.mem_append.mp hp with hp | hp
        · exact Nat.ne_of_gt (hab p hp).2.1
        · exact hr1 p hp
      · exact fun e => ho p hp (e ▸ .tail _ (.head _))
    obtain ⟨R, hR⟩ : ∃ R, R = tl ++ rest ++ own := ⟨_, rfl⟩
    rw [← hR] at hm2 hRc hRn N7
    have keep := And.intro hnv (And.intro hcv (And.intro hR (And.intro hab (And.intro h1 (And.intro h2 h3)))))
    clear ret hm1 hp hw hn hnv hcv hpt hR hab ho hr1 hr2 lr h1 h2 h3
    k_steps
    unfold Stop
    obtain ⟨hnv, hcv, hR, hab, h1, h2, h3⟩ := keep
    rename_i D9 _ l9 _ _ N9
    refine ⟨_, _, _, (ca, listOf _ _) :: treeIs x dx nl wl hh1 hh2 t1 t2 nd _ wvs _ e2 ((D9, _) :: tl ++ rest), rfl, by assumption, newsSub N9 (fun p hp => hR ▸ hold_mem1 hp), ?hab, _, _, _, _, _, _, map1, rfl, ?hnv, ?hcv, ?habv⟩
    case hab =>
      intro p hp
      simp only [treeIs, List.mem_cons, List.cons_append] at hp
      rcases hp with rfl | rfl | rfl | rfl | rfl | rfl | hp
      · exact .inr (.inl (.head _))
      · exact .inl (.tail _ (.head _))
      · exact .inl (.tail _ (.tail _ (.head _)))
      · exact .inr (.inl (.tail _ (.head _)))
      · exact .inl (.tail _ (.tail _ (.tail _ (.tail _ (.head _)))))
      · exact .inr (.inr fun q hq => allLt_mem l9.2.2.2.2.2 _ (hR ▸ List.mem_append_right _ hq))
      · exact .inl (.tail _ (.tail _ (.tail _ (.tail _ (.tail _ hp)))))
    case hnv =>
      rw [hold_take hp9, ← List.append_assoc]
      exact (DatAll.mono hold_sub hnv).append (.one (.tuple (.head _) (.cons (.str _ _) (.cons (DatIn.mono (fun p hp => .tail _ (List.mem_append_right _ hp)) h1) .nil))))
    case hcv =>
      have : nvs'.length = Nd.length + i := by omega
      rw [countFrom, ← this]
      exact hcv.append (.one (.int _ _))
    case habv =>
      intro p hp
      rcases List.mem_cons.mp hp with rfl | hp
      · exact ⟨l9.1, l9.2.2.2.1, l9.2.2.2.2.1, fun q hq => allLt_mem l9.2.2.2.2.2 _ (hR ▸ List.mem_append_left _ (List.mem_append_right _ hq))⟩
      · exact hab p hp
  case done =>
    intro m nx h tk hJ F8 N8
    obtain ⟨u, nvs', e1', cvs, ec, tl, rfl, rfl, hnv, hcv, hab⟩ := hJ
    simp only [treeIs] at N8
    have hpt2 := List.mem_append_right tl hpt
    have keep := And.intro hnv (And.intro hcv (And.intro hp hw))
    clear N hp hw hn hnv hcv
    k_steps
    unfold Stop
    rename News _ _ _ _ => N6
    rename Fr _ _ _ _ => F6
    rename IsRange _ _ _ _ _ _ _ _ => R6
    obtain ⟨hnv, hcv, hp, hw⟩ := keep
    rw [hpl] at R6 hnv hcv
    rw [List.take_length] at hnv
    refine' for_range [wl] (HJ2 (frMap F6) ca x dx nl wl hh1 hh2 t1 t2 nd nvs' e1' cvs ec (tl ++ rest) (tl ++ pool) Nd.length Wd ps) R6 (range_down_small ?b0) range_down rfl ?s2 F6 N6 ⟨_, wvs, e2, [], map0, rfl, ?s3, fun _ hp => nomatch hp⟩ ?turn ?done
    case b0 => omega
    case s2 =>
      intro b hb
      obtain rfl := List.mem_singleton.mp hb; exact ⟨_, .tail _ (.tail _ (.tail _ (.tail _ (.head _))))⟩
    case s3 => simpa [waits] using DatAll.mono (fun p hp => List.mem_append_right _ hp) hw
    case turn =>
      intro i tk' m nx h tk own hi hJ F8 N8 ho
      obtain ⟨u2, wvs', e2', tl2, rfl, rfl, hwv, hab2⟩ := hJ
      dsimp only at F8
      have N7 := newsMove N8
      simp only [List.cons_append, treeIs] at N7
      clear N8
      obtain ⟨p9, hp9⟩ : ∃ p9, ps[ps.length - 1 - i]? = some p9 := ⟨_, List.getElem?_eq_getElem (by omega)⟩
      obtain ⟨v9, hv9, hd9⟩ := datAll_at' hp (d := partDat p9) (by rw [List.getElem?_map, hp9]; rfl)
      obtain ⟨c9, hc9, hd8⟩ := datAll_at' hcv (countFrom_get Nd.length ps.length (ps.length - 1 - i) (by omega))
      cases hd8
      rw [partDat] at hd9
      cases hd9 with
      | tuple hm1 hr3 =>
      rename_i va vs1 te
      cases hr3 with
      | cons h1 hr3 =>
      cases hr3 with
      | cons h2 hr3 =>
      cases hr3 with
      | cons h3 hr3 =>
      cases hr3
      have hm2 := List.mem_append_left own (List.mem_append_right tl2 (List.mem_append_right tl (hsub _ hm1)))
      have hpt3 := List.mem_append_left own (List.mem_append_right tl2 hpt2)
      have hRw : ∀ p ∈ tl2 ++ (tl ++ rest) ++ own, p.1 ≠ wl := by
        intro p hp
        rcases List.mem_append.mp hp with hp | hp
        · rcases List.mem_append.mp hp with hp | hp
          · exact Nat.ne_of_gt (hab2 p hp).2.2.1
          · rcases List.mem_append.mp hp with hp | hp
            · exact Nat.ne_of_gt (hab p hp).2.2.1
            · exact hr2 p hp
        · exact fun e => ho p hp (e ▸ .head _)
      have ej : ((ps.length : Int) - 1 + (i : Int) * (-1)).toNat = ps.length - 1 - i := by omega
      have ej0 : 0 ≤ ((ps.length : Int) - 1 + (i : Int) * (-1)) := by omega
      have ej1 : ((ps.length : Int) - 1 + (i : Int) * (-1)) < 2 ^ 62 := by omega
      have hlw : wvs'.length ≤ 2000 := by
        have := hwv.length
        have hl2 : ∀ (l : List (Dat × Dat × Dat)) n, (waits n l).length = l.length := by
          intro l; induction l with
          | nil => intro n; rfl
          | cons a r ih => intro n; simp [waits, ih]
        rw [List.length_append, hl2, List.length_drop] at this
        omega
      obtain ⟨R, hR⟩ : ∃ R, R = tl2 ++ (tl ++ rest) ++ own := ⟨_, rfl⟩
      rw [← hR] at hm2 hpt3 hRw N7
      have keep := And.intro hwv (And.intro hR (And.intro hab2 (And.intro h1 (And.intro h2 h3))))
      have keep2 := And.intro hab (And.intro hr1 (And.intro hr2 (And.intro lr hnv)))
      clear N5 hp hw hnv hcv hwv hR hab2 h1 h2 h3 hab hr1 hr2 lr hpt hm1 ho
      k_steps
      unfold Stop
      refine' my_sub N7 (.head _) ej0 ej1 (by rw [ej]; exact hc9) ?_
      k_steps
      unfold Stop
      rename News _ _ _ _ => N5
      refine' my_sub N5 (.tail _ (.tail _ (.tail _ (.tail _ (.tail _ (.tail _ hpt3)))))) ej0 ej1 (by rw [ej]; exact hv9) ?_
      k_steps
      unfold Stop
      obtain ⟨hwv, hR, hab2, h1, h2, h3⟩ := keep
      obtain ⟨hab, hr1, hr2, lr, hnv⟩ := keep2
      rename_i D9 _ l9 _ _ N9
      refine ⟨_, _, _, (ca, listOf _ _) :: treeIs x dx nl wl hh1 hh2 t1 t2 nd nvs' _ e1' _ ((D9, _) :: tl2 ++ (tl ++ rest)), rfl, by assumption, newsSub N9 (fun p hp => hR ▸ hold_mem2 hp), ?hab, _, _, _, _, map1, rfl, ?hwv, ?habv⟩
      case hab =>
        intro p hp
        simp only [treeIs, List.mem_cons, List.cons_append] at hp
        rcases hp with rfl | rfl | rfl | rfl | rfl | rfl | hp
        · exact .inl (.head _)
        · exact .inl (.tail _ (.head _))
        · exact .inl (.tail _ (.tail _ (.head _)))
        · exact .inl (.tail _ (.tail _ (.tail _ (.head _))))
        · exact .inr (.inl (.head _))
        · exact .inr (.inr fun q hq => allLt_mem l9.2.2.2.2.2.2 _ (hR ▸ List.mem_append_right _ hq))
        · exact .inl (.tail _ (.tail _ (.tail _ (.tail _ (.tail _ hp)))))
      case hwv =>
        have ej2 : ps.length - (i + 1) = ps.length - 1 - i := by omega
        have ej3 : ps.length - i = ps.length - 1 - i + 1 := by omega
        have hs : ∀ D : Addr × Obj, ∀ p ∈ pool, p ∈ (D :: tl2) ++ (tl ++ pool) := fun D p hp => .tail _ (List.mem_append_right _ (List.mem_append_right _ hp))
        have ew : Wd ++ waits (Nd.length + (ps.length - (i + 1))) (ps.drop (ps.length - (i + 1))) = (Wd ++ waits (Nd.length + (ps.length - i)) (ps.drop (ps.length - i))) ++ [waitDat (Nd.length + (ps.length - 1 - i)) p9] := by
          rw [ej2, waits_drop hp9, ← ej3, List.append_assoc]
        rw [ew]
        exact (DatAll.mono hold_sub hwv).append (.one (.tuple (.head _) (.cons (.int _ _) (.cons (DatIn.mono (hs _) h1) (.cons (DatIn.mono (hs _) h2) (.cons (DatIn.mono (hs _) h3) .nil))))))
      case habv =>
        intro p hp
        rcases List.mem_cons.mp hp with rfl | hp
        · exact ⟨l9.2.1, l9.2.2.2.2.1, l9.2.2.2.2.2.1, fun q hq => allLt_mem l9.2.2.2.2.2.2 _ (hR ▸ List.mem_append_left _ (List.mem_append_right _ hq))⟩
        · exact hab2 p hp
    case done =>
      intro m nx h tk hJ F8 N8
      obtain ⟨u2, wvs', e2', tl2, rfl, rfl, hwv, hab2⟩ := hJ
      simp only [treeIs] at N8
      have keep := And.intro hnv (And.intro hcv (And.intro hp hw))
      clear N5 hp hw hnv hcv
      k_steps
      rename_i D9 _ _ _ l9 _ N9 _ _
      obtain ⟨hnv, hcv, hp, hw⟩ := keep
      have ew : waits (Nd.length + (ps.length - ps.length)) (ps.drop (ps.length - ps.length)) = waits Nd.length ps := by simp
      rw [ew, ← List.append_assoc] at hwv
      refine ret _ nvs' wvs' e1' e2' ((D9, _) :: (ca, listOf cvs.toArray ec) :: (tl2 ++ tl)) _ _ ?hr ?hnv ?hwv ?hab (by assumption) (newsSub N9 fun p hp => hold_mem3 hp)
      case hr => exact .tuple (.head _) (.cons (.str _ _) (.cons (.list (.tail _ (.head _)) (DatAll.mono (news := []) (fun _ hp => nomatch hp) hcv)) .nil))
      case hnv => exact DatAll.mono (fun p hp => .tail _ (.tail _ (by have hq := List.mem_append_right tl2 hp; rw [← List.append_assoc] at hq; exact hq))) hnv
      case hwv => exact DatAll.mono (fun p hp => .tail _ (.tail _ hp)) hwv
      case hab =>
        intro p hp
        rcases List.mem_cons.mp hp with rfl | hp
        · exact ⟨l9.2.2.2.1, l9.2.2.2.2.1, fun q hq => allLt_mem l9.2.2.2.2.2 _ (List.mem_append_right _ (List.mem_append_right _ hq))⟩
        · rcases List.mem_cons.mp hp with rfl | hp
          · exact ⟨ln, lw, fun q hq => allLt_mem lr _ hq⟩
          · rcases List.mem_append.mp hp with hp | hp
            · exact ⟨(hab2 p hp).2.1, (hab2 p hp).2.2.1, fun q hq => (hab2 p hp).2.2.2 q (List.mem_append_right _ hq)⟩
            · exact ⟨(hab p hp).2.1, (hab p hp).2.2.1, (hab p hp).2.2.2⟩
end
section
theorem off_and {a I : Addr} {news : List (Addr × Obj)} (h : @LT.lt Nat _ a I ∧ AllLt I news) : ∀ p ∈ news, p.1 ≠ I := fun p hp => Nat.ne_of_lt (allLt_mem h.2 p hp)
theorem conj_abv {l I : Addr} {o : Obj} {tl news : List (Addr × Obj)} (h : @LT.lt Nat _ l I ∧ AllLt I news) (hp : ∀ p ∈ tl, @LE.le Nat _ I p.1) : ∀ p ∈ tl, ∀ q ∈ (l, o) :: news, q.1 < p.1 := by
  intro p h1 q h2
  rcases List.mem_cons.mp h2 with rfl | h2
  · exact Nat.lt_of_lt_of_le h.1 (hp p h1)
  · exact Nat.lt_of_lt_of_le (allLt_mem h.2 _ h2) (hp p h1)
set_option maxRecDepth 100000 in
set_option maxHeartbeats 8000000 in
theorem conj_ok (w : World) (mean : ExcName → Option Value) (mg mb : Str → Option Value) 
  (dp un : Nat) (gd : Option (List Code)) (cn : Str) (cs : Scope) (a : Addr) (ccd : Value) (cl : List (Str × Addr)) (outer : List Env) (A₀ : Around) (base h₀ : Heap) (L : Addr) (m : Str → Option Value) (s : Shared)
  (l : Addr) (vs : List Value) (e : Nat) (ds : List Dat) (pool news : List (Addr × Obj)) (Q E : Value → Shared → Prop)
  (B : Below A₀ base outer h₀) (F : Fr h₀ L s.heap m) (X : (hd.heap_39 w.params).In h₀) (N : News h₀ L s.heap ((l, listOf vs.toArray e) :: news))
  (T : Top hd.view_39 (looseW hd.view_39 []) mean mg mb h₀) (hk : cs.kind = .function) (hv : DatAll pool vs ds) (h3 : ds.length ≤ 3)
  (hd : dp ≤ 400) (hu : un ≤ 1000)
  (ret : ∀ r tl h' tk', DatIn (tl ++ pool) r (Tr.fold 1 ds) → (∀ p ∈ tl, ∀ q ∈ (l, listOf vs.toArray e) :: news, q.1 < p.1) → Fr h₀ L h' m → News h₀ L h' (tl ++ (l, listOf vs.toArray e) :: news) → Q r { s with heap := h', toks := tk' }) :
   wpAny (model PySem.Challenge.rw_sa0140_01.row.prog w) (ktrTop dp un gd cn cs L a ccd cl outer) (call (.ref 28) [.ref l]) Q E s := by
  revert X
  w_top off
  k_with_none
  k_with "units_room" => (((have _ := cLine_is); simp only [units_in1, units_deeper, Around.mark_units, units_caller]; (try dsimp only [ktrTop]); omega))
  k_with "k_all" => (assumption)
  k_with "kpa_ne" => (exact pos_of_ne (by assumption) (by assumption))
  k_with "call builtin:list.reverse" => ((k_here; k_dflt (refine' my_reverse ?zF ?zN ?zU ?zz ?_; (case zF => k_asm); (case zN => k_asm); (case zU => k_upd); (case zz => ((simp only [sizeLine_eq, List.length_append, List.length_cons, List.length_nil]); first | omega | ((simp only [rangeKs_length] at *); omega)))); intro _ _ _; (try k_sweep)))
  k_with "call builtin:list.append" => ((k_here; (with_reducible show wpAny _ _ (call (Value.builtin _) [Value.ref _, _]) _ _ _); k_dflt (refine' my_append ?zF ?zN ?zU ?zz ?_; (case zF => k_asm); (case zN => k_asm); (case zU => k_upd); (case zz => ((simp only [sizeLine_eq, List.length_append, List.length_cons, List.length_nil]); first | omega | ((simp only [rangeKs_length] at *); omega)))); intro _ _ _; (try k_sweep)))
  k_with "call builtin:len" => ((k_here; (with_reducible show wpAny _ _ (call (Value.builtin "len") [Value.ref _]) _ _ _); k_dflt (refine' my_len ?zN ?zm ?zz ?_; (case zN => k_asm); (case zm => k_mem); (case zz => ((try simp only [List.length_append, List.length_cons, List.length_nil]); omega))); (try simp only [List.length_append, List.length_cons, List.length_nil])))
  k_with "k_room" => (((try simp only [depth_under_make, depth_under_kw, depth_in1, depth_deeper, depth_caller, recursionLimit]); (try dsimp only [ktrTop]); omega))
  k_with "k_units" => (units_room)
  k_with "k_enter" => (first
    | (refine' code_def ?ze1 ?ze2 ?ze3 ?ze4 ?ze5 ?ze6 ?ze7 ?ze8 ?ze9 ?ze10 ?ze11 ?ze12 ?ze13 ?_ ?ze14 ?ze15 ?ze16 ?ze17; (case ze6 => exact rfl); (case ze7 => exact rfl); (case ze8 => first | exact rfl | assumption); (case ze1 => k_asm); (case ze2 => k_asm); (case ze3 => k_asm); (case ze4 => k_asm); (case ze5 => k_asm); (case ze9 => k_is); (case ze10 => k_is); (case ze11 => k_room); (case ze12 => exact BindsTo.of_eq rfl); (case ze17 => decide); (case ze13 => exact locs rfl); (case ze14 => exact rfl); (case ze15 => exact rfl); (case ze16 => exact rfl); k_whole; intro _ _ _ _ _ _ _ _ _; (try dsimp only); (try k_fold))
    | (refine' code_defC ?ze1 ?ze2 ?ze3 ?ze4 ?ze5 ?ze6 ?ze7 ?ze8 ?ze9 ?ze10 ?ze11 ?ze12 ?ze13 ?ze14 ?_ ?ze15 ?ze16 ?ze17; (case ze6 => exact rfl); (case ze7 => exact rfl); (case ze8 => first | exact rfl | assumption); (case ze1 => k_asm); (case ze2 => k_asm); (case ze3 => k_asm); (case ze4 => k_asm); (case ze5 => k_asm); (case ze9 => k_is); (case ze10 => k_is); (case ze11 => k_room); (case ze12 => exact BindsTo.of_eq rfl); (case ze13 => exact rfl); (case ze14 => decide +kernel); (case ze15 => exact rfl); (case ze16 => exact rfl); (case ze17 => exact rfl); k_whole; intro _ _ _ _ _ _ _ N'z Y'z _ _ _ l1z; (try k_lt l1z); k_cells Y'z; (try simp only [List.cons_append, List.nil_append] at N'z); (try dsimp only); (try k_fold)))
  k_with "UnrEnd" => ((k_here; k_dflt (refine' unr2 ?zF ?zN ?za ?zb ?zc ?_; (case zF => k_asm); (case zN => k_asm); (case za => (dsimp only; omega)); (case zb => (dsimp only; omega)); (case zc => ((repeat (refine List.forall_mem_cons.mpr ⟨by k_ne, ?_⟩)); exact off_and (by assumption))))))
  k_fill
  intro X
  rcases three h3 with rfl | ⟨d1, rfl⟩ | ⟨d1, d2, rfl⟩ | ⟨d1, d2, d3, rfl⟩
  · cases hv
    refine wpAny_call ?_
    k_dflt k_enter
    refine toFalse ?_
    k_steps
    rename_i N9 _ _
    exact ret _ [_] _ _ (DatIn.tuple (.head _) (.cons (.str _ _) (.cons (.int _ _) .nil))) (conj_abv (by assumption) (List.forall_mem_cons.mpr ⟨by dsimp only; omega, List.forall_mem_nil _⟩)) (by assumption) N9
  · cases hv with
    | cons p1 hv =>
    cases hv
    refine wpAny_call ?_
    k_dflt k_enter
    refine toFalse ?_
    k_steps
    rename_i N9 _ _
    exact ret _ [] _ _ (p1) (fun _ hp => nomatch hp) (by assumption) N9
  · cases hv with
    | cons p1 hv =>
    cases hv with
    | cons p2 hv =>
    cases hv
    refine wpAny_call ?_
    k_dflt k_enter
    refine toFalse ?_
    k_steps
    rename_i N9 _ _
    exact ret _ [_, _] _ _ (DatIn.tuple (.head _) (.cons (.str _ _) (.cons (.int _ _) (.cons (.tuple (.tail _ (.head _)) (.cons (p1.mono (fun p hp => List.mem_append.mpr (.inr hp))) (.cons (p2.mono (fun p hp => List.mem_append.mpr (.inr hp))) .nil))) .nil)))) (conj_abv (by assumption) (List.forall_mem_cons.mpr ⟨by dsimp only; omega, List.forall_mem_cons.mpr ⟨by dsimp only; omega, List.forall_mem_nil _⟩⟩)) (by assumption) N9
  · cases hv with
    | cons p1 hv =>
    cases hv with
    | cons p2 hv =>
    cases hv with
    | cons p3 hv =>
    cases hv
    refine wpAny_call ?_
    k_dflt k_enter
    refine toFalse ?_
    k_steps
    rename_i N9 _ _
    exact ret _ [_, _, _, _] _ _ (DatIn.tuple (.head _) (.cons (.str _ _) (.cons (.int _ _) (.cons (.tuple (.tail _ (.head _)) (.cons (p1.mono (fun p hp => List.mem_append.mpr (.inr hp))) (.cons (DatIn.tuple (.tail _ (.tail _ (.head _))) (.cons (.str _ _) (.cons (.int _ _) (.cons (.tuple (.tail _ (.tail _ (.tail _ (.head _)))) (.cons (p2.mono (fun p hp => List.mem_append.mpr (.inr hp))) (.cons (p3.mono (fun p hp => List.mem_append.mpr (.inr hp))) .nil))) .nil)))) .nil))) .nil)))) (conj_abv (by assumption) (List.forall_mem_cons.mpr ⟨by dsimp only; omega, List.forall_mem_cons.mpr ⟨by dsimp only; omega, List.forall_mem_cons.mpr ⟨by dsimp only; omega, List.forall_mem_cons.mpr ⟨by dsimp only; omega, List.forall_mem_nil _⟩⟩⟩⟩)) (by assumption) N9
end
section
def NodeOk (Ms : List Dat) (i : Nat) (nd mt : Dat) : Prop := nd = goalDat mt ∨ ∃ w n k, w ≠ Wd.leaf ∧ w.arity k = true ∧ i < n ∧ n + k ≤ Ms.length ∧ nd = .tuple [.str w.str, .list (countFrom n k)] ∧ mt = Tr.mean 0 w ((Ms.drop n).take k)
theorem newsDrop2 {h₀ h : Heap} {L : Addr} {x y : Addr × Obj} {news : List (Addr × Obj)} (N : News h₀ L h (x :: y :: news)) : News h₀ L h (x :: news) := newsSub N fun p hp => (List.mem_cons.mp hp).elim (fun e => e ▸ .head _) fun hp => .tail _ (.tail _ hp)
theorem News.cons' {h₀ h : Heap} {L : Addr} {p a b c d e f : Addr × Obj} {news : List (Addr × Obj)} (N : News h₀ L h (a :: b :: c :: d :: e :: f :: news)) (hp : p ∈ news) : News h₀ L h (p :: a :: b :: c :: d :: e :: f :: news) := newsSub N fun q hq => (List.mem_cons.mp hq).elim (fun e => e ▸ .tail _ (.tail _ (.tail _ (.tail _ (.tail _ (.tail _ hp)))))) id
theorem offc {a b c d L : Addr} {rest : List (Addr × Obj)} (h : @LT.lt Nat _ a L ∧ @LT.lt Nat _ b L ∧ @LT.lt Nat _ c L ∧ @LT.lt Nat _ d L ∧ AllLt L rest) : ∀ p ∈ rest, p.1 ≠ L + 1 := fun p hp e => by
  have h1 := allLt_mem h.2.2.2.2 _ hp
  rw [e] at h1
  exact Nat.not_succ_le_self _ (Nat.le_of_succ_le h1)
theorem norm5 {a b c d e : Str} {m' m₀ : Str → Option Value} (h : ∀ y, y ≠ a → y ≠ b → y ≠ c → y ≠ d → y ≠ e → m' y = m₀ y) : m' = fun y => if y = a then m' y else if y = b then m' y else if y = c then m' y else if y = d then m' y else if y = e then m' y else m₀ y := by
  funext y
  by_cases h1 : y = a
  · simp [h1]
  by_cases h2 : y = b
  · simp [h2]
  by_cases h3 : y = c
  · simp [h3]
  by_cases h4 : y = d
  · simp [h4]
  by_cases h5 : y = e
  · simp [h5]
  rw [if_neg h1, if_neg h2, if_neg h3, if_neg h4, if_neg h5]
  exact h y h1 h2 h3 h4 h5
/-- the loop of goal -/
def GJ (m₀ : Str → Option Value) (gl : Addr) (cc : Addr × Obj) (x dx nl wl : Addr) (hh1 hh2 : Int) (t1 t2 : Tok) (nd : Nat) (nvs wvs : List Value) (e1 e2 : Nat) (rest : List (Addr × Obj)) (Ms : List Dat) (i : Nat) (m : Str → Option Value) (nx : List (Addr × Obj)) : Prop :=
  ∃ (u : Str → Option Value) (gvs : List Value) (eg : Nat) (tl : List (Addr × Obj)), m = (fun y => if y = PySem.Str.ofString "place" then u y else if y = PySem.Str.ofString "word" then u y else if y = PySem.Str.ofString "held" then u y else if y = PySem.Str.ofString "inner" then u y else if y = PySem.Str.ofString "done" then u y else m₀ y) ∧
    nx = (gl, listOf (List.toArray gvs) eg) :: cc :: treeIs x dx nl wl hh1 hh2 t1 t2 nd nvs wvs e1 e2 (tl ++ rest) ∧ gvs.length = Ms.length ∧ DatAll (tl ++ rest) (gvs.drop (Ms.length - i)) (Ms.drop (Ms.length - i)) ∧ (∀ p ∈ tl, @LT.lt Nat _ gl p.1 ∧ @LT.lt Nat _ nl p.1 ∧ @LT.lt Nat _ wl p.1 ∧ ∀ q ∈ rest, q.1 < p.1)
theorem drop_at {pool : List (Addr × Obj)} {gvs : List Value} {Ms : List Dat} {a q : Nat} {d : Dat} (h : DatAll pool (gvs.drop a) (Ms.drop a)) (hq : a ≤ q) (hd : Ms[q]? = some d) : ∃ v, gvs[q]? = some v ∧ DatIn pool v d := by
  obtain ⟨v, hv, hd'⟩ := datAll_at' h (i := q - a) (d := d) (by rw [List.getElem?_drop, ← hd]; congr 1; omega)
  refine ⟨v, ?_, hd'⟩
  rw [List.getElem?_drop] at hv
  rw [← hv]
  congr 1
  omega
theorem set_drop {gvs : List Value} {j : Nat} {v : Value} (hj : j < gvs.length) : (gvs.set j v).drop j = v :: gvs.drop (j + 1) := by
  rw [List.drop_eq_getElem_cons (by rw [List.length_set]; exact hj)]
  rw [List.getElem_set_self, List.drop_set_of_lt (Nat.lt_succ_self j)]
theorem goal_mem {gg cc a b c d p : Addr × Obj} {pre tl rest own : List (Addr × Obj)} (h : p ∈ own ++ (gg :: cc :: a :: b :: c :: d :: ((pre ++ tl) ++ rest))) : p ∈ pre ++ (gg :: cc :: a :: b :: c :: d :: (tl ++ rest ++ own)) := by
  simp only [List.mem_append, List.mem_cons] at h ⊢
  rcases h with h | h | h | h | h | h | h | ((h | h) | h) <;> simp [h]
theorem goal_next {m₀ m' : Str → Option Value} {gl : Addr} {cc : Addr × Obj} {x dx nl wl : Addr} {hh1 hh2 : Int} {t1 t2 : Tok} {nd : Nat} {nvs wvs : List Value} {e1 e2 : Nat} {rest tl own pre R : List (Addr × Obj)} {Ms : List Dat} {i tk' eg : Nat} {g h' : Heap} {L : Addr} {s₁ s₂ : Shared} {v : Value} {gvs : List Value} {mt : Dat}
    (hi : i < Ms.length) (hgl : gvs.length = Ms.length) (hgv : DatAll (tl ++ rest) (gvs.drop (Ms.length - i)) (Ms.drop (Ms.length - i))) (hab : ∀ p ∈ tl, @LT.lt Nat _ gl p.1 ∧ @LT.lt Nat _ nl p.1 ∧ @LT.lt Nat _ wl p.1 ∧ ∀ q ∈ rest, q.1 < p.1)
    (hR : R = tl ++ rest ++ own) (hmt : Ms[Ms.length - 1 - i]? = some mt) (hv : DatIn ((pre ++ tl) ++ rest) v mt) (hpre : ∀ p ∈ pre, @LT.lt Nat _ gl p.1 ∧ @LT.lt Nat _ nl p.1 ∧ @LT.lt Nat _ wl p.1 ∧ ∀ q ∈ R, q.1 < p.1)
    (hm : ∀ y, y ≠ PySem.Str.ofString "place" → y ≠ PySem.Str.ofString "word" → y ≠ PySem.Str.ofString "held" → y ≠ PySem.Str.ofString "inner" → y ≠ PySem.Str.ofString "done" → m' y = m₀ y)
    (hs : s₂ = { s₁ with heap := h', toks := tk' }) (F : Fr g L h' m') (N : News g L h' (pre ++ ((gl, listOf (gvs.set (Ms.length - 1 - i) v).toArray eg) :: cc :: (x, instObj 57 dx) :: (dx, dictOf [⟨hh1, .str (PySem.Str.ofString "nodes") t1, .ref nl⟩, ⟨hh2, .str (PySem.Str.ofString "waiting") t2, .ref wl⟩] nd) :: (nl, listOf nvs.toArray e1) :: (wl, listOf wvs.toArray e2) :: R))) {eg0 : Nat} :
    ForEnd g L [gl] own ((gl, listOf gvs.toArray eg0) :: cc :: treeIs x dx nl wl hh1 hh2 t1 t2 nd nvs wvs e1 e2 (tl ++ rest)) (GJ m₀ gl cc x dx nl wl hh1 hh2 t1 t2 nd nvs wvs e1 e2 rest Ms (i + 1)) s₁ s₂ := by
  subst hR
  refine ⟨h', tk', m', (gl, listOf (gvs.set (Ms.length - 1 - i) v).toArray eg) :: cc :: treeIs x dx nl wl hh1 hh2 t1 t2 nd nvs wvs e1 e2 ((pre ++ tl) ++ rest), hs, F, newsSub N (fun p hp => goal_mem hp), ?_, m', _, _, _, norm5 hm, rfl, ?_, ?_, ?_⟩
  · intro p hp
    simp only [treeIs, List.mem_cons, List.mem_append] at hp ⊢
    rcases hp with rfl | hp | hp | hp | hp | hp | ((hp | hp) | hp)
    · exact .inr (.inl (.inl rfl))
    · simp [hp]
    · simp [hp]
    · simp [hp]
    · simp [hp]
    · simp [hp]
    · exact .inr (.inr fun q hq => (hpre p hp).2.2.2 q (List.mem_append_right _ hq))
    · simp [hp]
    · simp [hp]
  · rw [List.length_set]; exact hgl
  · have ea : Ms.length - (i + 1) = Ms.length - 1 - i := by omega
    have eb : Ms.length - i = Ms.length - 1 - i + 1 := by omega
    rw [eb] at hgv
    rw [ea, set_drop (by omega)]
    have ec : Ms.drop (Ms.length - 1 - i) = mt :: Ms.drop (Ms.length - 1 - i + 1) := by
      have hlt : Ms.length - 1 - i < Ms.length := by omega
      rw [List.drop_eq_getElem_cons hlt]
      congr 1
      exact Option.some.inj ((List.getElem?_eq_getElem hlt).symm.trans hmt)
    rw [ec]
    exact .cons hv (DatAll.mono (fun p hp => by rw [List.append_assoc]; exact List.mem_append_right _ hp) hgv)
  · intro p hp
    rcases List.mem_append.mp hp with hp | hp
    · obtain ⟨a1, a2, a3, a4⟩ := hpre p hp
      exact ⟨a1, a2, a3, fun q hq => a4 q (List.mem_append_left _ (List.mem_append_right _ hq))⟩
    · exact hab p hp
/-- the comprehension of goal -/
def CJ (pool : List (Addr × Obj)) (Ms : List Dat) (n k : Nat) (nx0 : List (Addr × Obj)) (t : Nat) (ys : List Value) (nx : List (Addr × Obj)) : Prop := nx = nx0 ∧ DatAll pool ys (((Ms.drop n).take k).take t)
theorem cj_next {pool : List (Addr × Obj)} {Ms : List Dat} {n k t : Nat} {nx0 own : List (Addr × Obj)} {ys : List Value} {v : Value} {d : Dat} {g h' : Heap} {L : Addr} {m : Str → Option Value} {s₁ s₂ : Shared} {tk' : Nat}
    (hD : DatAll pool ys (((Ms.drop n).take k).take t)) (ht : t < k) (hd : Ms[n + t]? = some d) (hv : DatIn pool v d) (hs : s₂ = { s₁ with heap := h', toks := tk' }) (F : Fr g L h' m) (N : News g L h' (own ++ nx0)) :
    EltEnd g L m [] own nx0 (CJ pool Ms n k nx0 (t + 1) (ys ++ [v])) s₁ s₂ := by
  refine ⟨h', tk', nx0, hs, F, N, fun p hp => .inl hp, rfl, ?_⟩
  have e : ((Ms.drop n).take k)[t]? = some d := by
    rw [List.getElem?_take_of_lt ht, List.getElem?_drop]
    exact hd
  rw [List.take_add_one, e]
  exact hD.append (.one hv)
theorem newsRot {h₀ h : Heap} {L : Addr} {a b c d e f : Addr × Obj} {pre R : List (Addr × Obj)} (N : News h₀ L h (pre ++ (a :: b :: c :: d :: e :: f :: R))) : News h₀ L h (a :: b :: c :: d :: e :: f :: (R ++ pre)) := newsSub N fun p hp => by
  simp only [List.mem_append, List.mem_cons] at hp ⊢
  rcases hp with h | h | h | h | h | h | h | h <;> simp [h]
theorem newsRot' {h₀ h : Heap} {L : Addr} {a b c d e f : Addr × Obj} {pre R : List (Addr × Obj)} (N : News h₀ L h (a :: b :: c :: d :: e :: f :: (R ++ pre))) : News h₀ L h (pre ++ (a :: b :: c :: d :: e :: f :: R)) := newsSub N fun p hp => by
  simp only [List.mem_append, List.mem_cons] at hp ⊢
  rcases hp with h | h | h | h | h | h | h | h <;> simp [h]
theorem newsConj {h₀ h : Heap} {L : Addr} {y z : Addr × Obj} {pre R : List (Addr × Obj)} (N : News h₀ L h (pre ++ y :: z :: R)) : News h₀ L h (pre ++ R) := newsSub N fun p hp => by
  simp only [List.mem_append, List.mem_cons] at hp ⊢
  rcases hp with h | h <;> simp [h]
theorem pre_abv {D gl x dx nl wl : Addr} {va cc : Addr × Obj} {o1 o2 o3 o4 o5 : Obj} {R pre : List (Addr × Obj)} (hlt : ∀ p ∈ va :: (gl, o1) :: cc :: (x, o2) :: (dx, o3) :: (nl, o4) :: (wl, o5) :: R, p.1 < D) (hp : ∀ p ∈ pre, @LE.le Nat _ D p.1) :
    ∀ p ∈ pre, @LT.lt Nat _ gl p.1 ∧ @LT.lt Nat _ nl p.1 ∧ @LT.lt Nat _ wl p.1 ∧ ∀ q ∈ R, q.1 < p.1 := fun p h =>
  have k := hp p h
  ⟨Nat.lt_of_lt_of_le (hlt _ (.tail _ (.head _))) k, Nat.lt_of_lt_of_le (hlt _ (.tail _ (.tail _ (.tail _ (.tail _ (.tail _ (.head _)))))) ) k, Nat.lt_of_lt_of_le (hlt _ (.tail _ (.tail _ (.tail _ (.tail _ (.tail _ (.tail _ (.head _))))))) ) k,
    fun q hq => Nat.lt_of_lt_of_le (hlt q (.tail _ (.tail _ (.tail _ (.tail _ (.tail _ (.tail _ (.tail _ hq)))))))) k⟩
theorem pre_off {gl nl wl : Addr} {R pre : List (Addr × Obj)} (hR : ∀ p ∈ R, p.1 ≠ gl) (h : ∀ p ∈ pre, @LT.lt Nat _ gl p.1 ∧ @LT.lt Nat _ nl p.1 ∧ @LT.lt Nat _ wl p.1 ∧ ∀ q ∈ R, q.1 < p.1) : ∀ p ∈ R ++ pre, p.1 ≠ gl := fun p hp =>
  (List.mem_append.mp hp).elim (hR p) fun hp => Nat.ne_of_gt (h p hp).1
theorem take_n1 {Ms : List Dat} {n : Nat} (h : n + 1 ≤ Ms.length) : ∃ d1, List.take 1 (List.drop n Ms) = [d1] := by
  have e : (List.take 1 (List.drop n Ms)).length = 1 := by rw [List.length_take, List.length_drop]; omega
  match List.take 1 (List.drop n Ms), e with
  | [d1], _ => exact ⟨d1, rfl⟩
theorem take_n2 {Ms : List Dat} {n : Nat} (h : n + 2 ≤ Ms.length) : ∃ d1 d2, List.take 2 (List.drop n Ms) = [d1, d2] := by
  have e : (List.take 2 (List.drop n Ms)).length = 2 := by rw [List.length_take, List.length_drop]; omega
  match List.take 2 (List.drop n Ms), e with
  | [d1, d2], _ => exact ⟨d1, d2, rfl⟩
theorem take_n3 {Ms : List Dat} {n : Nat} (h : n + 3 ≤ Ms.length) : ∃ d1 d2 d3, List.take 3 (List.drop n Ms) = [d1, d2, d3] := by
  have e : (List.take 3 (List.drop n Ms)).length = 3 := by rw [List.length_take, List.length_drop]; omega
  match List.take 3 (List.drop n Ms), e with
  | [d1, d2, d3], _ => exact ⟨d1, d2, d3, rfl⟩
theorem newsRotP {h₀ h : Heap} {L D gl x dx nl wl : Addr} {va cc : Addr × Obj} {o1 o1' o2 o3 o4 o5 : Obj} {R pre : List (Addr × Obj)} (N : News h₀ L h (pre ++ ((gl, o1') :: cc :: (x, o2) :: (dx, o3) :: (nl, o4) :: (wl, o5) :: R))) (hlt : ∀ p ∈ va :: (gl, o1) :: cc :: (x, o2) :: (dx, o3) :: (nl, o4) :: (wl, o5) :: R, p.1 < D) (hp : ∀ p ∈ pre, @LE.le Nat _ D p.1) :
    News h₀ L h ((gl, o1') :: cc :: (x, o2) :: (dx, o3) :: (nl, o4) :: (wl, o5) :: (R ++ pre)) ∧ ∀ p ∈ pre, @LT.lt Nat _ gl p.1 ∧ @LT.lt Nat _ nl p.1 ∧ @LT.lt Nat _ wl p.1 ∧ ∀ q ∈ R, q.1 < p.1 := ⟨newsRot N, pre_abv hlt hp⟩
theorem goal_lts {D gl x dx nl wl : Addr} {va cc : Addr × Obj} {o1 o2 o3 o4 o5 : Obj} {R : List (Addr × Obj)} (hlt : ∀ p ∈ va :: (gl, o1) :: cc :: (x, o2) :: (dx, o3) :: (nl, o4) :: (wl, o5) :: R, p.1 < D) :
    @LT.lt Nat _ gl D ∧ @LT.lt Nat _ cc.1 D ∧ @LT.lt Nat _ x D ∧ @LT.lt Nat _ dx D ∧ @LT.lt Nat _ nl D ∧ @LT.lt Nat _ wl D ∧ ∀ p ∈ R, p.1 ≠ D :=
  ⟨hlt _ (.tail _ (.head _)), hlt cc (.tail _ (.tail _ (.head _))), hlt _ (.tail _ (.tail _ (.tail _ (.head _)))), hlt _ (.tail _ (.tail _ (.tail _ (.tail _ (.head _))))), hlt _ (.tail _ (.tail _ (.tail _ (.tail _ (.tail _ (.head _)))))), hlt _ (.tail _ (.tail _ (.tail _ (.tail _ (.tail _ (.tail _ (.head _))))))),
    fun p hp => Nat.ne_of_lt (hlt p (.tail _ (.tail _ (.tail _ (.tail _ (.tail _ (.tail _ (.tail _ hp))))))))⟩
section
variable {prog : Program} {w : World} {A : Around} {E : Value → Shared → Prop} {s : Shared} {h₀ h : Heap} {L D : Addr} {m : Str → Option Value} {news news' : List (Addr × Obj)} {n : Nat} {a b c : Value} {Q : Value → Shared → Prop}
theorem pop1 (F : Fr h₀ L s.heap m) (N : News h₀ L s.heap news) (U : Upd D (listOf [a].toArray n) (listOf [].toArray (n + 1)) news news')
    (h : ∀ h', Fr h₀ L h' m → News h₀ L h' news' → Q a { s with heap := h' }) : wpAny (model prog w) A (call (.builtin "list.pop") [.ref D]) Q E s := my_pop (us := []) F N U (by simp) h
theorem pop2 (F : Fr h₀ L s.heap m) (N : News h₀ L s.heap news) (U : Upd D (listOf [a, b].toArray n) (listOf [a].toArray (n + 1)) news news')
    (h : ∀ h', Fr h₀ L h' m → News h₀ L h' news' → Q b { s with heap := h' }) : wpAny (model prog w) A (call (.builtin "list.pop") [.ref D]) Q E s := my_pop (us := [a]) F N U (by simp) h
theorem pop3 (F : Fr h₀ L s.heap m) (N : News h₀ L s.heap news) (U : Upd D (listOf [a, b, c].toArray n) (listOf [a, b].toArray (n + 1)) news news')
    (h : ∀ h', Fr h₀ L h' m → News h₀ L h' news' → Q c { s with heap := h' }) : wpAny (model prog w) A (call (.builtin "list.pop") [.ref D]) Q E s := my_pop (us := [a, b]) F N U (by simp) h
end
section
variable {prog : Program} {w : World} {A : Around} {E : Value → Shared → Prop} {s : Shared} {h₀ h : Heap} {L D : Addr} {news : List (Addr × Obj)} {n : Nat} {a b : Value} {Q : Bool → Shared → Prop}
theorem truth2 (N : News h₀ L s.heap news) (hm : (D, listOf [a, b].toArray n) ∈ news) (h : Q true { s with toks := s.toks + 1 + 1 }) : wpAny (model prog w) A (truthy (.ref D)) Q E s :=
  wpAny_truthy_list (News.isList N hm) (by simp) (by simpa using h)
theorem truth1 (N : News h₀ L s.heap news) (hm : (D, listOf [a].toArray n) ∈ news) (h : Q true { s with toks := s.toks + 1 + 1 }) : wpAny (model prog w) A (truthy (.ref D)) Q E s :=
  wpAny_truthy_list (News.isList N hm) (by simp) (by simpa using h)
theorem truth0 (N : News h₀ L s.heap news) (hm : (D, listOf [].toArray n) ∈ news) (h : Q false { s with toks := s.toks + 1 + 1 }) : wpAny (model prog w) A (truthy (.ref D)) Q E s :=
  wpAny_truthy_list (News.isList N hm) (by simp) (by simpa using h)
end
end
section
def hereOf (n : Nat) : Int := if n = 0 then 7 else 10 * (n : Int)
def thereOf (n : Nat) : Int := if n = 0 then 8 else 10 * (n : Int) + 1
def Tr.part (t : Tr) : Dat × Dat × Dat := (t.dat, .int (hereOf t.num), .int (thereOf t.num))
/-- the node of a translated part -/
def DoneAt (TT : List Tr) (Nd : List Dat) (q : Nat) (t : Tr) : Prop :=
  (t.wd = .leaf ∧ Nd[q]? = some (goalDat t.meant)) ∨ ∃ n, t.wd ≠ .leaf ∧ q < n ∧ n + t.kids.length ≤ TT.length ∧ Nd[q]? = some (.tuple [.str t.wd.str, .list (countFrom n t.kids.length)]) ∧ t.kids = (TT.drop n).take t.kids.length
structure Inv (S : Nat) (root : Tr) (pls : List Nat) (Wk : List (Nat × Tr)) (TT : List Tr) (Nd : List Dat) : Prop where
  pre : Tr.Pres pls.length (Wk.map Prod.snd)
  tot : pls.length + Tr.sizes (Wk.map Prod.snd) = S
  wk : ∀ p ∈ Wk, TT[p.1]? = some p.2 ∧ p.1 ∉ pls ∧ Nd[p.1]? = some (goalDat p.2.dat)
  nd : (Wk.map Prod.fst).Nodup
  all : ∀ q t, TT[q]? = some t → (q, t) ∈ Wk ∨ DoneAt TT Nd q t
  ok : ∀ t ∈ TT, t.Ok 3
  len : TT.length = Nd.length
  cnt : TT.length = pls.length + Wk.length
  root : TT[0]? = some root
  low : ∀ q ∈ pls, q < TT.length
def kidsAt : Nat → List Tr → List (Nat × Tr)
  | _, [] => []
  | n, k :: r => (n, k) :: kidsAt (n + 1) r
theorem kidsAt_snd : ∀ n ks, (kidsAt n ks).map Prod.snd = ks
  | _, [] => rfl
  | n, k :: r => by simp [kidsAt, kidsAt_snd (n + 1) r]
theorem kidsAt_length : ∀ n ks, (kidsAt n ks).length = ks.length
  | _, [] => rfl
  | n, k :: r => by simp [kidsAt, kidsAt_length (n + 1) r]
theorem kidsAt_mem : ∀ {n : Nat} {ks : List Tr} {p : Nat × Tr}, p ∈ kidsAt n ks → n ≤ p.1 ∧ p.1 < n + ks.length ∧ ks[p.1 - n]? = some p.2
  | n, [], p, h => by simp [kidsAt] at h
  | n, k :: r, p, h => by
    simp only [kidsAt, List.mem_cons] at h
    rcases h with rfl | h
    · simp
    · obtain ⟨a, b, c⟩ := kidsAt_mem h
      refine ⟨by omega, by simp; omega, ?_⟩
      have e : p.1 - n = (p.1 - (n + 1)) + 1 := by omega
      rw [e, List.getElem?_cons_succ]
      exact c
theorem kidsAt_of : ∀ {n : Nat} {ks : List Tr} {i : Nat} {t : Tr}, ks[i]? = some t → (n + i, t) ∈ kidsAt n ks
  | n, [], i, t, h => by simp at h
  | n, k :: r, 0, t, h => by simp at h; simp [kidsAt, h]
  | n, k :: r, i + 1, t, h => by
    have := kidsAt_of (n := n + 1) (ks := r) (i := i) (by simpa using h)
    rw [kidsAt]
    refine List.mem_cons_of_mem _ ?_
    have e : n + (i + 1) = n + 1 + i := by omega
    rw [e]; exact this
theorem kidsAt_nodup : ∀ n ks, ((kidsAt n ks).map Prod.fst).Nodup
  | _, [] => by simp [kidsAt]
  | n, k :: r => by
    simp only [kidsAt, List.map_cons, List.nodup_cons]
    refine ⟨fun h => ?_, kidsAt_nodup (n + 1) r⟩
    obtain ⟨p, hp, e⟩ := List.mem_map.mp h
    have := (kidsAt_mem hp).1
    omega
theorem Tr.size_pos (t : Tr) : 0 < t.size := by cases t; simp [Tr.size]
theorem Tr.sizes_ge : ∀ ts : List Tr, ts.length ≤ Tr.sizes ts
  | [] => by simp [Tr.sizes]
  | t :: r => by
    have := Tr.size_pos t
    have := Tr.sizes_ge r
    simp [Tr.sizes]; omega
theorem Tr.Pres_append : ∀ {n : Nat} {a b : List Tr}, Tr.Pres n a → Tr.Pres (n + Tr.sizes a) b → Tr.Pres n (a ++ b)
  | n, [], b, _, h => by simpa [Tr.sizes] using h
  | n, t :: r, b, h, k => by
    simp only [Tr.Pres, Tr.sizes, List.cons_append] at h k ⊢
    exact ⟨h.1, Tr.Pres_append h.2 (by rw [Nat.add_assoc]; exact k)⟩
mutual
theorem Tr.Ok_succ : ∀ {d : Nat} (t : Tr), t.Ok d → t.Ok (d + 1)
  | 0, .mk n w ks, h => by
    simp only [Tr.Ok] at h ⊢
    exact ⟨h.1, .inr (Nat.succ_pos _), h.2.2⟩
  | d + 1, .mk n w ks, h => by
    simp only [Tr.Ok, Nat.add_sub_cancel] at h ⊢
    exact ⟨h.1, .inr (Nat.succ_pos _), Tr.Oks_succ ks h.2.2⟩
theorem Tr.Oks_succ : ∀ {d : Nat} (ks : List Tr), Tr.Oks d ks → Tr.Oks (d + 1) ks
  | _, [], _ => by simp [Tr.Oks]
  | d, t :: r, h => by
    simp only [Tr.Oks] at h ⊢
    exact ⟨Tr.Ok_succ t h.1, Tr.Oks_succ r h.2⟩
end
theorem Tr.Oks_all : ∀ {d : Nat} {ks : List Tr}, Tr.Oks d ks → ∀ t ∈ ks, t.Ok d
  | _, [], _, t, h => by simp at h
  | d, u :: r, h, t, ht => by
    simp only [Tr.Oks] at h
    rcases List.mem_cons.mp ht with rfl | ht
    · exact h.1
    · exact Tr.Oks_all h.2 t ht
theorem Tr.kids_ok {t : Tr} (h : t.Ok 3) : ∀ k ∈ t.kids, k.Ok 3 := by
  obtain ⟨n, w, ks⟩ := t
  simp only [Tr.Ok] at h
  exact fun k hk => Tr.Ok_succ k (Tr.Oks_all h.2.2 k hk)
theorem meants_get : ∀ {ks : List Tr} {i : Nat}, (Tr.meants ks)[i]? = (ks[i]?).map Tr.meant
  | [], i => by simp [Tr.meants]
  | t :: r, 0 => by simp [Tr.meants]
  | t :: r, i + 1 => by simp [Tr.meants, meants_get (ks := r) (i := i)]
theorem meants_drop : ∀ (ks : List Tr) (n : Nat), (Tr.meants ks).drop n = Tr.meants (ks.drop n)
  | ks, 0 => rfl
  | [], n + 1 => by simp [Tr.meants]
  | t :: r, n + 1 => by simp [Tr.meants, meants_drop r n]
theorem meants_take : ∀ (ks : List Tr) (n : Nat), (Tr.meants ks).take n = Tr.meants (ks.take n)
  | ks, 0 => by simp [Tr.meants]
  | [], n + 1 => by simp [Tr.meants]
  | t :: r, n + 1 => by simp [Tr.meants, meants_take r n]
theorem mean_any {n m : Nat} {w : Wd} {ds : List Dat} (h : w ≠ .leaf) : Tr.mean n w ds = Tr.mean m w ds := by
  cases w
  · exact absurd rfl h
  all_goals rcases ds with _ | ⟨x, _ | ⟨y, _ | _⟩⟩ <;> rfl
variable {S : Nat} {root : Tr} {pls : List Nat} {Wk : List (Nat × Tr)} {TT : List Tr} {Nd : List Dat} {q : Nat} {t : Tr}
theorem Inv.start (h : root.Pre 0) (ho : root.Ok 3) : Inv root.size root [] [(0, root)] [root] [goalDat root.dat] where
  pre := by simpa [Tr.Pres] using h
  tot := by simp [Tr.sizes]
  wk := by simp
  nd := by simp
  all := by
    intro q t h
    cases q with
    | zero => simp at h; subst h; simp
    | succ q => simp at h
  ok := by simpa using ho
  len := rfl
  cnt := rfl
  root := rfl
  low := by simp
theorem DoneAt.grow {TT ks : List Tr} {Nd xs : List Dat} {q q' : Nat} {t : Tr} {v : Dat} (h : DoneAt TT Nd q' t) (hq : q' ≠ q) (hl : q' < Nd.length) : DoneAt (TT ++ ks) ((Nd ++ xs).set q v) q' t := by
  have e : ((Nd ++ xs).set q v)[q']? = Nd[q']? := by
    rw [List.getElem?_set_ne (Ne.symm hq), List.getElem?_append_left hl]
  rcases h with ⟨a, b⟩ | ⟨n, a, b, c, d, f⟩
  · exact .inl ⟨a, by rw [e]; exact b⟩
  · refine .inr ⟨n, a, b, by rw [List.length_append]; omega, by rw [e]; exact d, ?_⟩
    rw [List.drop_append_of_le_length (by omega), List.take_append_of_le_length (by rw [List.length_drop]; omega)]
    exact f
theorem Inv.bound (I : Inv S root pls Wk TT Nd) : TT.length ≤ S := by
  have h1 := I.cnt
  have h2 := I.tot
  have h3 := Tr.sizes_ge (Wk.map Prod.snd)
  rw [List.length_map] at h3
  omega
/-- the shared step: q is done, the parts it holds wait -/
theorem Inv.step {v : Dat} (I : Inv S root pls ((q, t) :: Wk) TT Nd) (hd : DoneAt (TT ++ t.kids) ((Nd ++ t.kids.map fun k => goalDat k.dat).set q v) q t) :
    Inv S root (pls ++ [q]) (kidsAt Nd.length t.kids ++ Wk) (TT ++ t.kids) ((Nd ++ t.kids.map fun k => goalDat k.dat).set q v) := by
  obtain ⟨ht, hqp, hqn⟩ := I.wk (q, t) (.head _)
  have hq : q < Nd.length := (List.getElem?_eq_some_iff.mp hqn).1
  have hp := I.pre
  have htot := I.tot
  have hnd := I.nd
  simp only [List.map_cons, Tr.Pres, Tr.sizes, List.nodup_cons] at hp htot hnd
  have hsz : t.size = Tr.sizes t.kids + 1 := by cases t; rfl
  have hpk : Tr.Pres (pls.length + 1) t.kids := by
    obtain ⟨n, w, ks⟩ := t
    have h1 := hp.1
    simp only [Tr.Pre] at h1
    exact h1.2
  have hlen := I.len
  constructor
  · rw [List.map_append, kidsAt_snd, List.length_append]
    refine Tr.Pres_append hpk ?_
    have h2 := hp.2
    rw [hsz] at h2
    have e : pls.length + [q].length + Tr.sizes t.kids = pls.length + (Tr.sizes t.kids + 1) := by simp; omega
    rw [e]; exact h2
  · rw [List.map_append, kidsAt_snd, Tr.sizes_append, List.length_append, List.length_singleton]
    omega
  · intro p hp
    rcases List.mem_append.mp hp with hp | hp
    · obtain ⟨a, b, c⟩ := kidsAt_mem hp
      refine ⟨?_, ?_, ?_⟩
      · rw [List.getElem?_append_right (by omega), hlen]; exact c
      · intro hm
        rcases List.mem_append.mp hm with hm | hm
        · have := I.low _ hm; omega
        · have := List.mem_singleton.mp hm; omega
      · rw [List.getElem?_set_ne (by omega), List.getElem?_append_right (by omega), List.getElem?_map, c]; rfl
    · obtain ⟨a, b, c⟩ := I.wk p (.tail _ hp)
      have hpq : p.1 ≠ q := fun e => hnd.1 (e ▸ List.mem_map_of_mem hp)
      have h1 := (List.getElem?_eq_some_iff.mp a).1
      have h2 := (List.getElem?_eq_some_iff.mp c).1
      refine ⟨?_, ?_, ?_⟩
      · rw [List.getElem?_append_left h1]; exact a
      · intro hm
        rcases List.mem_append.mp hm with hm | hm
        · exact b hm
        · exact hpq (List.mem_singleton.mp hm)
      · rw [List.getElem?_set_ne (Ne.symm hpq), List.getElem?_append_left h2]; exact c
  · rw [List.map_append, List.nodup_append]
    refine ⟨kidsAt_nodup _ _, hnd.2, ?_⟩
    intro a ha b hb e
    obtain ⟨p, hp, rfl⟩ := List.mem_map.mp ha
    obtain ⟨p', hp', rfl⟩ := List.mem_map.mp hb
    have h1 := (kidsAt_mem hp).1
    have h2 := (List.getElem?_eq_some_iff.mp (I.wk p' (.tail _ hp')).1).1
    omega
  · intro q' t' h'
    by_cases hlt : q' < TT.length
    · rw [List.getElem?_append_left hlt] at h'
      by_cases e : q' = q
      · subst e
        rw [ht] at h'
        cases h'
        exact .inr hd
      · rcases I.all q' t' h' with hm | hm
        · rcases List.mem_cons.mp hm with hm | hm
          · cases hm; exact absurd rfl e
          · exact .inl (List.mem_append_right _ hm)
        · exact .inr (hm.grow e (by omega))
    · rw [List.getElem?_append_right (by omega)] at h'
      refine .inl (List.mem_append_left _ ?_)
      have := kidsAt_of (n := Nd.length) h'
      have e : Nd.length + (q' - TT.length) = q' := by omega
      rw [e] at this
      exact this
  · intro u hu
    rcases List.mem_append.mp hu with hu | hu
    · exact I.ok u hu
    · exact Tr.kids_ok (I.ok t (List.mem_of_getElem? ht)) u hu
  · simp [hlen]
  · have := I.cnt
    simp only [List.length_append, List.length_cons, kidsAt_length, List.length_nil] at this ⊢
    omega
  · have h0 := I.root
    rw [List.getElem?_append_left (List.getElem?_eq_some_iff.mp h0).1]; exact h0
  · intro p hp
    rw [List.length_append]
    rcases List.mem_append.mp hp with hp | hp
    · have := I.low p hp; omega
    · have := List.mem_singleton.mp hp; omega
theorem Inv.leaf (I : Inv S root pls ((q, t) :: Wk) TT Nd) (hw : t.wd = .leaf) (hk : t.kids = []) : Inv S root (pls ++ [q]) Wk TT (Nd.set q (goalDat t.meant)) := by
  have hq : q < Nd.length := (List.getElem?_eq_some_iff.mp (I.wk (q, t) (.head _)).2.2).1
  have h := I.step (v := goalDat t.meant) (.inl ⟨hw, by rw [List.getElem?_set_self (by rw [List.length_append]; omega)]⟩)
  rw [hk] at h
  simpa [kidsAt] using h
theorem Inv.node (I : Inv S root pls ((q, t) :: Wk) TT Nd) (hw : t.wd ≠ .leaf) : Inv S root (pls ++ [q]) (kidsAt Nd.length t.kids ++ Wk) (TT ++ t.kids) ((Nd ++ t.kids.map fun k => goalDat k.dat).set q (.tuple [.str t.wd.str, .list (countFrom Nd.length t.kids.length)])) := by
  have hq : q < Nd.length := (List.getElem?_eq_some_iff.mp (I.wk (q, t) (.head _)).2.2).1
  have hlen := I.len
  refine I.step (.inr ⟨Nd.length, hw, hq, by rw [List.length_append]; omega, by rw [List.getElem?_set_self (by rw [List.length_append]; omega)], ?_⟩)
  rw [← hlen, List.drop_left, List.take_length]
theorem Inv.done (I : Inv S root pls [] TT Nd) : pls.length = S ∧ ∀ i nd mt, Nd[i]? = some nd → (Tr.meants TT)[i]? = some mt → NodeOk (Tr.meants TT) i nd mt := by
  refine ⟨by simpa [Tr.sizes] using I.tot, ?_⟩
  intro i nd mt h1 h2
  rw [meants_get] at h2
  obtain ⟨t, ht, rfl⟩ := Option.map_eq_some_iff.mp h2
  rcases I.all i t ht with h | h
  · exact absurd h List.not_mem_nil
  · rcases h with ⟨a, b⟩ | ⟨n, a, b, c, d, f⟩
    · rw [h1] at b; cases b; exact .inl rfl
    · rw [h1] at d; cases d
      have hok := I.ok t (List.mem_of_getElem? ht)
      refine .inr ⟨t.wd, n, t.kids.length, a, ?_, b, by rw [Tr.meants_length]; exact c, rfl, ?_⟩
      · obtain ⟨m, w, ks⟩ := t; simp only [Tr.Ok] at hok; exact hok.1
      · rw [meants_drop, meants_take, ← f]
        obtain ⟨m, w, ks⟩ := t
        simp only [Tr.meant, Tr.kids, Tr.wd] at a ⊢
        exact mean_any a
end
section
def wkDat (p : Nat × Tr) : Dat := waitDat p.1 p.2.part
theorem waits_kids : ∀ (n : Nat) (ks : List Tr), waits n (ks.map Tr.part) = ((kidsAt n ks).map wkDat).reverse
  | _, [] => rfl
  | n, k :: r => by simp [waits, kidsAt, waits_kids (n + 1) r, wkDat]
def Ends (pool : List (Addr × Obj)) (fe : Int → Option Value) (Wk : List (Nat × Tr)) : Prop := ∀ p ∈ Wk, ∃ v, fe (p.2.num : Int) = some v ∧ DatIn pool v (.tuple [.int (hereOf p.2.num), .int (thereOf p.2.num)])
def Holds (fh : Int → Option Value) (pls : List Nat) (Wk : List (Nat × Tr)) : Prop := ∀ p ∈ Wk, 0 < p.2.num → ∃ (hn : Nat) (tok : Tok) (q : Nat), fh (p.2.num : Int) = some (.int (hn : Int) tok) ∧ pls[hn]? = some q ∧ q < p.1
def offAll (as : List Addr) (pool : List (Addr × Obj)) : Prop := ∀ b ∈ as, ∀ p ∈ pool, p.1 ≠ b
def plsDat (pls : List Nat) : List Dat := pls.map fun (q : Nat) => Dat.int (q : Int)
/-- the names that a turn of law stores -/
abbrev turnMap (u m₀ : Str → Option Value) : Str → Option Value := fun y => if y = PySem.Str.ofString "place" then u y else if y = PySem.Str.ofString "part" then u y else if y = PySem.Str.ofString "here" then u y else if y = PySem.Str.ofString "there" then u y else if y = PySem.Str.ofString "number" then u y else if y = PySem.Str.ofString "word" then u y else if y = PySem.Str.ofString "held" then u y else if y = PySem.Str.ofString "parts" then u y else if y = PySem.Str.ofString "one" then u y else m₀ y
/-- the names that law stores ahead of its loop -/
abbrev lawMap (pl hd ed x cn c : Addr) (rv sc : Value) : Str → Option Value := fun y => if y = PySem.Str.ofString "places" then some (.ref pl) else if y = PySem.Str.ofString "holders" then some (.ref hd) else if y = PySem.Str.ofString "ends" then some (.ref ed) else if y = PySem.Str.ofString "tree" then some (.ref x) else if y = PySem.Str.ofString "root" then some rv else if y = PySem.Str.ofString "counted" then some (.ref cn) else if y = PySem.Str.ofString "coins" then some (.ref c) else List.lookup y [(PySem.Str.ofString "script", sc)].reverse
/-- the loop of law -/
def LJ (S : Nat) (root : Tr) (m₀ : Str → Option Value) (pl hd ed cn x dx nl wl : Addr) (hh1 hh2 : Int) (t1 t2 tn : Tok) (nd ec : Nat) (rv : Value) (n : Nat) (m : Str → Option Value) (nx : List (Addr × Obj)) : Prop :=
  ∃ (u : Str → Option Value) (pls : List Nat) (Wk : List (Nat × Tr)) (TT : List Tr) (Nd : List Dat) (nvs wvs pvs : List Value) (e1 e2 e3 : Nat) (eo ho : Obj) (fe fh : Int → Option Value) (pool : List (Addr × Obj)),
    m = turnMap u m₀ ∧
    nx = (pl, listOf (List.toArray pvs) e3) :: (hd, ho) :: (ed, eo) :: (cn, listOf (List.toArray [Value.int (S : Int) tn]) ec) :: treeIs x dx nl wl hh1 hh2 t1 t2 nd nvs wvs e1 e2 pool ∧
    Inv S root pls Wk TT Nd ∧ n = Tr.sizes (Wk.map Prod.snd) ∧ DatAll pool nvs Nd ∧ DatAll pool wvs (Wk.map wkDat).reverse ∧ DatAll [] pvs (plsDat pls) ∧ DictI eo fe TT.length ∧ DictI ho fh TT.length ∧ Ends pool fe Wk ∧ Holds fh pls Wk ∧ offAll [pl, hd, ed, cn, x, dx, nl, wl] pool ∧ DatIn pool rv root.dat
theorem norm9 {a b c d e f g i j : Str} {m' m₀ : Str → Option Value} (h : ∀ y, y ≠ a → y ≠ b → y ≠ c → y ≠ d → y ≠ e → y ≠ f → y ≠ g → y ≠ i → y ≠ j → m' y = m₀ y) :
    m' = fun y => if y = a then m' y else if y = b then m' y else if y = c then m' y else if y = d then m' y else if y = e then m' y else if y = f then m' y else if y = g then m' y else if y = i then m' y else if y = j then m' y else m₀ y := by
  funext y
  repeat' split
  all_goals first | rfl | (apply h <;> assumption)
theorem law_start {g h : Heap} {L pl hd D7 ed wl Dw nl Dn x dx cn : Addr} {ho eo : Obj} {a7 a8 b0 b7 b8 tg tn : Tok} {rv : Value} {t : Tr} {ec : Nat} {tl : List (Addr × Obj)} {hh1 hh2 : Int} {t1 t2 : Tok} {nd : Nat} {m : Str → Option Value} {w : World} {pr : Program}
    (_ : Fr g L h m)
    (NN : News g L h ((pl, listOf #[] 0) :: (hd, ho) :: (D7, { cls := .type "tuple", data := .seq #[.int 7 a7, .int 8 a8] }) :: (ed, eo) :: (wl, listOf #[.ref Dw] 0) :: (Dw, { cls := .type "tuple", data := .seq #[.int 0 b0, rv, .int 7 b7, .int 8 b8] }) :: (nl, listOf #[.ref Dn] 0) :: (Dn, { cls := .type "tuple", data := .seq #[.str (PySem.Str.ofString "goal") tg, rv] }) :: (x, instObj 57 dx) ::
      (dx, dictOf [⟨hh1, .str (PySem.Str.ofString "nodes") t1, .ref nl⟩, ⟨hh2, .str (PySem.Str.ofString "waiting") t2, .ref wl⟩] nd) :: (cn, listOf #[.int (t.size : Int) tn] ec) :: tl))
    (hpre : t.Pre 0) (hok : t.Ok 3) (hdat : DatIn tl rv t.dat) (hoff : offAll [pl, hd, ed, cn, x, dx, nl, wl] ((D7, { cls := .type "tuple", data := .seq #[.int 7 a7, .int 8 a8] }) :: (Dw, { cls := .type "tuple", data := .seq #[.int 0 b0, rv, .int 7 b7, .int 8 b8] }) :: (Dn, { cls := .type "tuple", data := .seq #[.str (PySem.Str.ofString "goal") tg, rv] }) :: tl))
    (he : eo.IsDictOf (PySem.intKind pr w) [(0, .ref D7)]) (hh : ho.IsDictOf (PySem.intKind pr w) []) :
    ∃ nx n hh1 hh2 t1 t2 tn nd ec, News g L h nx ∧ LJ t.size t m pl hd ed cn x dx nl wl hh1 hh2 t1 t2 tn nd ec rv n m nx := by
  have hn0 : t.num = 0 := by obtain ⟨n, w, ks⟩ := t; simp only [Tr.Pre] at hpre; exact hpre.1
  refine ⟨_, _, hh1, hh2, t1, t2, tn, nd, ec, ?_, m, [], [(0, t)], [t], [goalDat t.dat], [.ref Dn], [.ref Dw], [], 0, 0, 0, eo, ho, _, valueAt [], _, norm9 fun _ _ _ _ _ _ _ _ _ _ => rfl, rfl, Inv.start hpre hok, rfl, ?_, ?_, DatAll.nil, dictI_of he, ?_, ?_, ?_, hoff, DatIn.mono (fun p hp => .tail _ (.tail _ (.tail _ hp))) hdat⟩
  · refine newsSub NN fun p hp => ?_
    simp only [treeIs, List.mem_cons] at hp ⊢
    rcases hp with h | h | h | h | h | h | h | h | h | h | h | h <;> simp [h]
  · exact .one (.tuple (vs := [_, _]) (.tail _ (.tail _ (.head _))) (.cons (.str _ _) (.cons (DatIn.mono (fun p hp => .tail _ (.tail _ (.tail _ hp))) hdat) .nil)))
  · refine .one (.tuple (vs := [_, _, _, _]) (.tail _ (.head _)) (.cons (.int _ _) (.cons (DatIn.mono (fun p hp => .tail _ (.tail _ (.tail _ hp))) hdat) (.cons ?_ (.cons ?_ .nil)))))
    · have e : hereOf t.num = 7 := by rw [hn0]; rfl
      show DatIn _ (.int 7 b7) (.int (hereOf t.num))
      rw [e]; exact .int _ _
    · have e : thereOf t.num = 8 := by rw [hn0]; rfl
      show DatIn _ (.int 8 b8) (.int (thereOf t.num))
      rw [e]; exact .int _ _
  · have d := dictI_of hh
    obtain ⟨a, b, c, d1, d2, d3, d4⟩ := d
    exact ⟨a, b, c, d1, d2, d3, Nat.le_trans d4 (Nat.zero_le _)⟩
  · intro p hp
    obtain rfl := List.mem_singleton.mp hp
    refine ⟨.ref D7, ?_, ?_⟩
    · simp [hn0, valueAt]
    · simp only [hn0, hereOf, thereOf]
      exact .tuple (vs := [_, _]) (.head _) (.cons (.int _ _) (.cons (.int _ _) .nil))
  · intro p hp h0
    obtain rfl := List.mem_singleton.mp hp
    simp only [hn0] at h0
    exact absurd h0 (Nat.lt_irrefl _)
section
variable {prog : Program} {w : World} {A : Around} {E : Value → Shared → Prop} {s : Shared} {h₀ h : Heap} {L : Addr} {news n₁ n₂ : List (Addr × Obj)} {a b : Value} {d : Dat} {Q : Value → Shared → Prop}
theorem my_ne_same (k : Nat) (N : News h₀ L s.heap news) (Da : DatIn n₁ a d) (sa : ∀ p ∈ n₁, p ∈ news) (Db : DatIn n₂ b d) (sb : ∀ p ∈ n₂, p ∈ news) (ha : kqdOk k d = true) (hk : k ≤ 60) (hu : A.units + 64 < cLine)
    (h : Q (.bool false) s) : wpAny (model prog w) A (compareOp .NotEq a b) Q E s :=
  my_ne k N Da sa Db sb ha ha hk hu (by simpa using h)
theorem my_eq_same (k : Nat) (N : News h₀ L s.heap news) (Da : DatIn n₁ a d) (sa : ∀ p ∈ n₁, p ∈ news) (Db : DatIn n₂ b d) (sb : ∀ p ∈ n₂, p ∈ news) (ha : kqdOk k d = true) (hk : k ≤ 60) (hu : A.units + 64 < cLine)
    (h : Q (.bool true) s) : wpAny (model prog w) A (compareOp .Eq a b) Q E s :=
  my_eq k N Da sa Db sb ha ha hk hu (by simpa using h)
theorem my_ne_nil (k : Nat) {l l' : Addr} {ys : List Value} {ds : List Dat} {c c' : Nat} (N : News h₀ L s.heap news) (hl : (l, listOf ys.toArray c) ∈ news) (hl' : (l', listOf ([] : List Value).toArray c') ∈ news) (Da : DatAll n₁ ys ds) (sa : ∀ p ∈ n₁, p ∈ news)
    (ha : ∀ d ∈ ds, kqdOk k d = true) (hk : k ≤ 50) (hu : A.units + 64 < cLine) (h : Q (.bool (!ds.isEmpty)) s) : wpAny (model prog w) A (compareOp .NotEq (.ref l) (.ref l')) Q E s := by
  refine my_ne (k + 1) N (.list hl (Da.mono sa)) (fun _ hp => hp) (.list hl' .nil) (fun _ hp => hp) (by simp only [kqdOk, List.all_eq_true]; exact ha) (by simp [kqdOk]) (by omega) hu ?_
  cases ds with
  | nil => simpa using h
  | cons d ds => simpa using h
theorem my_notin {pl : Addr} {pvs : List Value} {e q : Nat} {pls : List Nat} {t : Tok} (N : News h₀ L s.heap news) (hl : (pl, listOf pvs.toArray e) ∈ news) (hp : DatAll [] pvs (plsDat pls)) (hq : q ∉ pls) (hu : A.units + 64 < cLine) (h : Q (.bool false) s) :
    wpAny (model prog w) A (compareOp .In (.int (q : Int) t) (.ref pl)) Q E s := by
  refine kqd_isIn N hl rfl rfl hp (fun _ h => nomatch h) (.int (q : Int) t) (fun _ h => h) (fun d hd => ?_) rfl hu ?_
  · obtain ⟨n, _, rfl⟩ := List.mem_map.mp hd
    rfl
  · have e : Dat.int (q : Int) ∉ plsDat pls := fun hm => by
      obtain ⟨n, hn, e⟩ := List.mem_map.mp hm
      injection e with e
      have : n = q := by omega
      exact hq (this ▸ hn)
    simpa [e] using h
end
theorem datAll_snoc {news : List (Addr × Obj)} : ∀ {vs : List Value} {ds : List Dat} {d : Dat}, DatAll news vs (ds ++ [d]) → ∃ ws v, vs = ws ++ [v] ∧ DatAll news ws ds ∧ DatIn news v d
  | _, [], d, h => by
    cases h with
    | cons h1 h2 => cases h2; exact ⟨[], _, rfl, .nil, h1⟩
  | _, e :: ds, d, h => by
    cases h with
    | cons h1 h2 =>
      obtain ⟨ws, v, rfl, a, b⟩ := datAll_snoc h2
      exact ⟨_ :: ws, v, rfl, .cons h1 a, b⟩
theorem Inv.tr_ok {S : Nat} {root : Tr} {pls : List Nat} {Wk : List (Nat × Tr)} {TT : List Tr} {Nd : List Dat} (I : Inv S root pls Wk TT Nd) {p : Nat × Tr} (hp : p ∈ Wk) : p.2.Ok 3 := I.ok _ (List.mem_of_getElem? (I.wk p hp).1)
theorem wk_ok {S : Nat} {root : Tr} {pls : List Nat} {Wk : List (Nat × Tr)} {TT : List Tr} {Nd : List Dat} (I : Inv S root pls Wk TT Nd) : ∀ d ∈ (Wk.map wkDat).reverse, kqdOk 9 d = true := by
  intro d hd
  obtain ⟨p, hp, rfl⟩ := List.mem_map.mp (List.mem_reverse.mp hd)
  have := Tr.dat_ok 3 p.2 (I.tr_ok hp)
  simp only [wkDat, waitDat, Tr.part, kqdOk, List.all_cons, List.all_nil, Bool.and_true, Bool.true_and]
  simpa using this
theorem goal_okd {t : Tr} (h : t.Ok 3) : kqdOk 9 (goalDat t.dat) = true := by
  have := Tr.dat_ok 3 t h
  have e : PyData.strOk (PySem.Str.ofString "goal") = true := by decide +kernel
  simp only [goalDat, kqdOk, List.all_cons, List.all_nil, Bool.and_true, e, Bool.true_and]
  simpa using this
theorem kids_le {t : Tr} {d : Nat} (h : t.Ok d) : t.kids.length ≤ 3 := by
  obtain ⟨n, w, ks⟩ := t
  simp only [Tr.Ok] at h
  have h1 := h.1
  cases w <;> simp only [Wd.arity, Tr.kids, beq_iff_eq, decide_eq_true_eq, Bool.and_eq_true] at h1 ⊢ <;> omega
theorem sizes_mul {c : Nat} : ∀ {ks : List Tr}, (∀ k ∈ ks, k.size ≤ c) → Tr.sizes ks ≤ ks.length * c
  | [], _ => by simp [Tr.sizes]
  | t :: r, h => by
    have h1 := h t (.head _)
    have h2 := sizes_mul (ks := r) fun k hk => h k (.tail _ hk)
    simp only [Tr.sizes, List.length_cons, Nat.succ_mul]
    omega
theorem size_ok0 {t : Tr} (h : t.Ok 0) : t.size ≤ 1 := by
  obtain ⟨n, w, ks⟩ := t
  simp only [Tr.Ok] at h
  rcases h.2.1 with rfl | h
  · simp [Tr.size, Tr.sizes]
  · exact absurd h (Nat.lt_irrefl _)
theorem size_ok_succ {d c : Nat} {t : Tr} (ih : ∀ u : Tr, u.Ok d → u.size ≤ c) (h : t.Ok (d + 1)) : t.size ≤ 3 * c + 1 := by
  have h3 := kids_le h
  obtain ⟨n, w, ks⟩ := t
  simp only [Tr.Ok, Nat.add_sub_cancel] at h
  have := sizes_mul (c := c) fun k hk => ih k (Tr.Oks_all h.2.2 k hk)
  have h4 : ks.length * c ≤ 3 * c := Nat.mul_le_mul_right c h3
  simp only [Tr.size]
  omega
theorem Tr.size_le {t : Tr} (h : t.Ok 3) : t.size ≤ 40 := by
  have h1 : ∀ u : Tr, u.Ok 1 → u.size ≤ 4 := fun u hu => size_ok_succ (fun v hv => size_ok0 hv) hu
  have h2 : ∀ u : Tr, u.Ok 2 → u.size ≤ 13 := fun u hu => size_ok_succ h1 hu
  exact size_ok_succ h2 h
theorem nameHd {g h : Heap} {L a b : Addr} {o o' : Obj} {r : List (Addr × Obj)} (_ : News g L h ((a, o) :: (b, o') :: r)) : ∃ c, c = b := ⟨_, rfl⟩
/-- the eight objects of law are eight -/
structure Far8 (pl hd ed cn x dx nl wl : Addr) : Prop where
  f1 : @Ne Nat pl hd ∧ @Ne Nat pl ed ∧ @Ne Nat pl cn ∧ @Ne Nat pl x ∧ @Ne Nat pl dx ∧ @Ne Nat pl nl ∧ @Ne Nat pl wl
  f2 : @Ne Nat hd ed ∧ @Ne Nat hd cn ∧ @Ne Nat hd x ∧ @Ne Nat hd dx ∧ @Ne Nat hd nl ∧ @Ne Nat hd wl
  f3 : @Ne Nat ed cn ∧ @Ne Nat ed x ∧ @Ne Nat ed dx ∧ @Ne Nat ed nl ∧ @Ne Nat ed wl
  f4 : @Ne Nat cn x ∧ @Ne Nat cn dx ∧ @Ne Nat cn nl ∧ @Ne Nat cn wl
  f5 : @Ne Nat x dx ∧ @Ne Nat x nl ∧ @Ne Nat x wl
  f6 : @Ne Nat dx nl ∧ @Ne Nat dx wl
  f7 : @Ne Nat nl wl
  f8 : @LT.lt Nat _ x nl ∧ @LT.lt Nat _ dx nl
theorem far8_of {pl hd ed cn x dx nl wl D7 Dw Dn : Addr} {tl : List (Addr × Obj)} (aN : D7 ≠ hd ∧ ed ≠ hd ∧ wl ≠ hd ∧ Dw ≠ hd ∧ nl ≠ hd ∧ Dn ≠ hd ∧ x ≠ hd ∧ dx ≠ hd ∧ cn ≠ hd ∧ ∀ p ∈ tl, p.1 ≠ hd)
    (ch : @LT.lt Nat _ cn dx ∧ @LT.lt Nat _ dx x ∧ @LT.lt Nat _ x Dn ∧ @LT.lt Nat _ Dn nl ∧ @LT.lt Nat _ nl Dw ∧ @LT.lt Nat _ Dw wl ∧ @LT.lt Nat _ wl ed ∧ @LT.lt Nat _ ed D7 ∧ @LT.lt Nat _ D7 pl) (hp : @LT.lt Nat _ hd pl) (htl : AllLt dx tl) (hcn : ∀ p ∈ tl, @LT.lt Nat _ cn p.1) :
    Far8 pl hd ed cn x dx nl wl ∧ ∀ o7 ow on : Obj, offAll [pl, hd, ed, cn, x, dx, nl, wl] ((D7, o7) :: (Dw, ow) :: (Dn, on) :: tl) := by
  obtain ⟨a1, a2, a3, a4, a5, a6, a7, a8, a9, a10⟩ := aN
  refine ⟨⟨?_, ?_, ?_, ?_, ?_, ?_, ?_, ?_⟩, ?_⟩
  · refine ⟨?_, ?_, ?_, ?_, ?_, ?_, ?_⟩ <;> first | exact a1 | exact Ne.symm a1 | exact a2 | exact Ne.symm a2 | exact a3 | exact Ne.symm a3 | exact a4 | exact Ne.symm a4 | exact a5 | exact Ne.symm a5 | exact a6 | exact Ne.symm a6 | exact a7 | exact Ne.symm a7 | exact a8 | exact Ne.symm a8 | exact a9 | exact Ne.symm a9 | omega
  · refine ⟨?_, ?_, ?_, ?_, ?_, ?_⟩ <;> first | exact a1 | exact Ne.symm a1 | exact a2 | exact Ne.symm a2 | exact a3 | exact Ne.symm a3 | exact a4 | exact Ne.symm a4 | exact a5 | exact Ne.symm a5 | exact a6 | exact Ne.symm a6 | exact a7 | exact Ne.symm a7 | exact a8 | exact Ne.symm a8 | exact a9 | exact Ne.symm a9 | omega
  · refine ⟨?_, ?_, ?_, ?_, ?_⟩ <;> first | exact a1 | exact Ne.symm a1 | exact a2 | exact Ne.symm a2 | exact a3 | exact Ne.symm a3 | exact a4 | exact Ne.symm a4 | exact a5 | exact Ne.symm a5 | exact a6 | exact Ne.symm a6 | exact a7 | exact Ne.symm a7 | exact a8 | exact Ne.symm a8 | exact a9 | exact Ne.symm a9 | omega
  · refine ⟨?_, ?_, ?_, ?_⟩ <;> first | exact a1 | exact Ne.symm a1 | exact a2 | exact Ne.symm a2 | exact a3 | exact Ne.symm a3 | exact a4 | exact Ne.symm a4 | exact a5 | exact Ne.symm a5 | exact a6 | exact Ne.symm a6 | exact a7 | exact Ne.symm a7 | exact a8 | exact Ne.symm a8 | exact a9 | exact Ne.symm a9 | omega
  · refine ⟨?_, ?_, ?_⟩ <;> first | exact a1 | exact Ne.symm a1 | exact a2 | exact Ne.symm a2 | exact a3 | exact Ne.symm a3 | exact a4 | exact Ne.symm a4 | exact a5 | exact Ne.symm a5 | exact a6 | exact Ne.symm a6 | exact a7 | exact Ne.symm a7 | exact a8 | exact Ne.symm a8 | exact a9 | exact Ne.symm a9 | omega
  · refine ⟨?_, ?_⟩ <;> first | exact a1 | exact Ne.symm a1 | exact a2 | exact Ne.symm a2 | exact a3 | exact Ne.symm a3 | exact a4 | exact Ne.symm a4 | exact a5 | exact Ne.symm a5 | exact a6 | exact Ne.symm a6 | exact a7 | exact Ne.symm a7 | exact a8 | exact Ne.symm a8 | exact a9 | exact Ne.symm a9 | omega
  · omega
  · refine ⟨?_, ?_⟩ <;> first | exact a1 | exact Ne.symm a1 | exact a2 | exact Ne.symm a2 | exact a3 | exact Ne.symm a3 | exact a4 | exact Ne.symm a4 | exact a5 | exact Ne.symm a5 | exact a6 | exact Ne.symm a6 | exact a7 | exact Ne.symm a7 | exact a8 | exact Ne.symm a8 | exact a9 | exact Ne.symm a9 | omega
  · intro o7 ow on
    have tlo : ∀ b : Addr, @LE.le Nat _ dx b → ∀ p ∈ tl, p.1 ≠ b := fun b hb p hp => Nat.ne_of_lt (Nat.lt_of_lt_of_le (allLt_mem htl _ hp) hb)
    have key : ∀ b : Addr, @Ne Nat D7 b → @Ne Nat Dw b → @Ne Nat Dn b → (∀ p ∈ tl, p.1 ≠ b) → ∀ p ∈ (D7, o7) :: (Dw, ow) :: (Dn, on) :: tl, p.1 ≠ b := by
      intro b k1 k2 k3 k4 p hp
      rcases List.mem_cons.mp hp with rfl | hp
      · exact k1
      rcases List.mem_cons.mp hp with rfl | hp
      · exact k2
      rcases List.mem_cons.mp hp with rfl | hp
      · exact k3
      exact k4 p hp
    refine List.forall_mem_cons.mpr ⟨key _ ?_ ?_ ?_ (tlo _ ?_), List.forall_mem_cons.mpr ⟨key _ ?_ ?_ ?_ a10, List.forall_mem_cons.mpr ⟨key _ ?_ ?_ ?_ (tlo _ ?_), List.forall_mem_cons.mpr ⟨key _ ?_ ?_ ?_ fun p hp => Nat.ne_of_gt (hcn p hp), List.forall_mem_cons.mpr ⟨key _ ?_ ?_ ?_ (tlo _ ?_), List.forall_mem_cons.mpr ⟨key _ ?_ ?_ ?_ (tlo _ ?_), List.forall_mem_cons.mpr ⟨key _ ?_ ?_ ?_ (tlo _ ?_), List.forall_mem_cons.mpr ⟨key _ ?_ ?_ ?_ (tlo _ ?_), fun _ h => nomatch h⟩⟩⟩⟩⟩⟩⟩⟩ <;> first | exact a1 | exact Ne.symm a1 | exact a2 | exact Ne.symm a2 | exact a3 | exact Ne.symm a3 | exact a4 | exact Ne.symm a4 | exact a5 | exact Ne.symm a5 | exact a6 | exact Ne.symm a6 | exact a7 | exact Ne.symm a7 | exact a8 | exact Ne.symm a8 | exact a9 | exact Ne.symm a9 | omega
end
section
theorem Tr.Pres_mem : ∀ {n : Nat} {ts : List Tr}, Tr.Pres n ts → ∀ t ∈ ts, n ≤ t.num ∧ t.num < n + Tr.sizes ts
  | _, [], _, t, h => (nomatch h)
  | n, u :: r, h, t, ht => by
    simp only [Tr.Pres, Tr.sizes] at h ⊢
    rcases List.mem_cons.mp ht with rfl | ht
    · obtain ⟨k, w, ks⟩ := t
      have h1 := h.1
      simp only [Tr.Pre] at h1
      simp only [Tr.num, Tr.size]
      omega
    · have := Tr.Pres_mem h.2 t ht
      omega
section
variable {S : Nat} {root : Tr} {pls : List Nat} {Wk : List (Nat × Tr)} {TT : List Tr} {Nd : List Dat} {q : Nat} {t : Tr}
theorem Inv.num (I : Inv S root pls ((q, t) :: Wk) TT Nd) : t.num = pls.length := by
  have := I.pre
  obtain ⟨n, w, ks⟩ := t
  simp only [List.map_cons, Tr.Pres, Tr.Pre] at this
  exact this.1.1
theorem Inv.kids_num (I : Inv S root pls ((q, t) :: Wk) TT Nd) : ∀ k ∈ t.kids, pls.length < k.num ∧ k.num < pls.length + t.size := by
  have := I.pre
  obtain ⟨n, w, ks⟩ := t
  simp only [List.map_cons, Tr.Pres, Tr.Pre] at this
  intro k hk
  have := Tr.Pres_mem this.1.2 k hk
  simp only [Tr.size]
  omega
theorem Inv.rest_num (I : Inv S root pls ((q, t) :: Wk) TT Nd) : ∀ p ∈ Wk, pls.length + t.size ≤ p.2.num := by
  have := I.pre
  simp only [List.map_cons, Tr.Pres] at this
  intro p hp
  exact (Tr.Pres_mem this.2 p.2 (List.mem_map_of_mem hp)).1
end
theorem hereOf_pos {n : Nat} (h : 0 < n) : hereOf n = 10 * (n : Int) := by unfold hereOf; rw [if_neg (by omega)]
theorem thereOf_pos {n : Nat} (h : 0 < n) : thereOf n = 10 * (n : Int) + 1 := by unfold thereOf; rw [if_neg (by omega)]
theorem pls_snoc {pvs : List Value} {pls : List Nat} {q : Nat} {tq : Tok} (h : DatAll [] pvs (plsDat pls)) : DatAll [] (pvs ++ [Value.int (q : Int) tq]) (plsDat (pls ++ [q])) := by
  rw [plsDat, List.map_append]
  exact h.append (.one (.int _ _))
theorem datAll_set {pool : List (Addr × Obj)} : ∀ {vs : List Value} {ds : List Dat} {i : Nat} {v : Value} {d : Dat}, DatAll pool vs ds → DatIn pool v d → DatAll pool (vs.set i v) (ds.set i d)
  | _, _, _, _, _, .nil, _ => .nil
  | _, _, 0, _, _, .cons _ h, hv => .cons hv h
  | _, _, i + 1, _, _, .cons h1 h, hv => .cons h1 (datAll_set h hv)
section
variable {S : Nat} {root : Tr} {pls : List Nat} {Wk : List (Nat × Tr)} {TT : List Tr} {Nd : List Dat} {q : Nat} {t : Tr} {m₀ m' : Str → Option Value} {pl hd ed cn x dx nl wl : Addr} {hh1 hh2 : Int} {t1 t2 tn tq : Tok} {nd ec e1 e2 e3 tk : Nat} {rv r : Value} {nvs wvs pvs : List Value} {eo ho : Obj} {fe fh : Int → Option Value} {pool : List (Addr × Obj)} {g h : Heap} {L : Addr} {s s₃ : Shared}
theorem leaf_next {D1 D2 : Addr × Obj} (I : Inv S root pls ((q, t) :: Wk) TT Nd) (hw : t.wd = .leaf) (hk : t.kids = [])
    (hwv : DatAll pool wvs (Wk.map wkDat).reverse) (hnv : DatAll pool nvs Nd) (hpv : DatAll [] pvs (plsDat pls)) (hde : DictI eo fe TT.length) (hdh : DictI ho fh TT.length) (hE : Ends pool fe ((q, t) :: Wk)) (hH : Holds fh pls ((q, t) :: Wk)) (hoff : offAll [pl, hd, ed, cn, x, dx, nl, wl] pool) (hrv : DatIn pool rv root.dat)
    (hv : DatIn (D2 :: D1 :: pool) r (goalDat t.meant)) (h1 : ∀ b ∈ [pl, hd, ed, cn, x, dx, nl, wl], @LT.lt Nat _ b D1.1 ∧ @LT.lt Nat _ b D2.1)
    (hm : ∀ y, y ≠ PySem.Str.ofString "place" → y ≠ PySem.Str.ofString "part" → y ≠ PySem.Str.ofString "here" → y ≠ PySem.Str.ofString "there" → y ≠ PySem.Str.ofString "number" → y ≠ PySem.Str.ofString "word" → y ≠ PySem.Str.ofString "held" → y ≠ PySem.Str.ofString "parts" → y ≠ PySem.Str.ofString "one" → m' y = m₀ y)
    (hs : s₃ = { s with heap := h, toks := tk }) (F : Fr g L h m')
    (N : News g L h (D2 :: D1 :: (pl, listOf (pvs ++ [Value.int (q : Int) tq]).toArray e3) :: (hd, ho) :: (ed, eo) :: (cn, listOf (List.toArray [Value.int (S : Int) tn]) ec) :: (x, instObj 57 dx) :: (dx, dictOf [⟨hh1, .str (PySem.Str.ofString "nodes") t1, .ref nl⟩, ⟨hh2, .str (PySem.Str.ofString "waiting") t2, .ref wl⟩] nd) :: (nl, listOf (nvs.set q r).toArray e1) :: (wl, listOf wvs.toArray e2) :: pool)) :
    ∃ h' tk m₂ news₂ n', s₃ = { s with heap := h', toks := tk } ∧ Fr g L h' m₂ ∧ News g L h' news₂ ∧ n' < Tr.sizes (((q, t) :: Wk).map Prod.snd) ∧ LJ S root m₀ pl hd ed cn x dx nl wl hh1 hh2 t1 t2 tn nd ec rv n' m₂ news₂ := by
  have up : ∀ p ∈ pool, p ∈ D2 :: D1 :: pool := fun p hp => .tail _ (.tail _ hp)
  refine ⟨h, tk, m', _, Tr.sizes (Wk.map Prod.snd), hs, F, newsSub N ?_, ?_, m', pls ++ [q], Wk, TT, Nd.set q (goalDat t.meant), nvs.set q r, wvs, pvs ++ [Value.int (q : Int) tq], e1, e2, e3, eo, ho, fe, fh, D2 :: D1 :: pool, norm9 hm, rfl, I.leaf hw hk, rfl, datAll_set (hnv.mono up) hv, hwv.mono up, pls_snoc hpv, hde, hdh, ?_, ?_, ?_, hrv.mono up⟩
  · intro p hp
    simp only [treeIs, List.mem_cons] at hp ⊢
    rcases hp with h | h | h | h | h | h | h | h | h | h | h <;> simp [h]
  · have := Tr.size_pos t
    simp only [List.map_cons, Tr.sizes]
    omega
  · intro p hp
    obtain ⟨v, a, b⟩ := hE p (.tail _ hp)
    exact ⟨v, a, b.mono up⟩
  · intro p hp h0
    obtain ⟨hn, tok, q', a, b, c⟩ := hH p (.tail _ hp) h0
    exact ⟨hn, tok, q', a, by rw [List.getElem?_append_left (List.getElem?_eq_some_iff.mp b).1]; exact b, c⟩
  · intro b hb p hp
    rcases List.mem_cons.mp hp with rfl | hp
    · exact Nat.ne_of_gt (h1 b hb).2
    · rcases List.mem_cons.mp hp with rfl | hp
      · exact Nat.ne_of_gt (h1 b hb).1
      · exact hoff b hb p hp
/-- the inner loop of law -/
def FJ (m₀ : Str → Option Value) (pt pl hd ed cn x dx nl wl : Addr) (po co : Obj) (hh1 hh2 : Int) (t1 t2 : Tok) (nd : Nat) (nvs wvs : List Value) (e1 e2 : Nat) (pool : List (Addr × Obj)) (fe fh : Int → Option Value) (T0 num : Nat) (ks : List Tr) (i : Nat) (m : Str → Option Value) (nx : List (Addr × Obj)) : Prop :=
  ∃ (u : Str → Option Value) (qvs : List Value) (e4 : Nat) (eo ho : Obj) (fe' fh' : Int → Option Value) (tl : List (Addr × Obj)), m = (fun y => if y = PySem.Str.ofString "one" then u y else m₀ y) ∧
    nx = (pt, listOf (List.toArray qvs) e4) :: (pl, po) :: (hd, ho) :: (ed, eo) :: (cn, co) :: treeIs x dx nl wl hh1 hh2 t1 t2 nd nvs wvs e1 e2 (tl ++ pool) ∧
    DatAll (tl ++ pool) qvs ((ks.take i).map fun k => partDat k.part) ∧ DictI eo fe' (T0 + i) ∧ DictI ho fh' (T0 + i) ∧
    (∀ k ∈ ks.take i, ∃ v, fe' (k.num : Int) = some v ∧ DatIn (tl ++ pool) v (.tuple [.int (hereOf k.num), .int (thereOf k.num)])) ∧
    (∀ k ∈ ks.take i, ∃ tok, fh' (k.num : Int) = some (.int (num : Int) tok)) ∧ (∀ z : Int, (∀ k ∈ ks.take i, z ≠ (k.num : Int)) → fe' z = fe z ∧ fh' z = fh z) ∧ (∀ p ∈ tl, @LT.lt Nat _ pt p.1)
theorem fj_next {pt : Addr} {po co : Obj} {own tl R : List (Addr × Obj)} {T0 num i e4 e4' : Nat} {ks : List Tr} {k : Tr} {qvs : List Value} {fe' fh' : Int → Option Value} {eo0 ho0 : Obj} {D1 D2 : Addr × Obj} {v1 v2 : Value} {tk1 : Tok} {m₁ : Str → Option Value}
    (hk : ks[i]? = some k)
    (hq : DatAll (tl ++ pool) qvs ((ks.take i).map fun k => partDat k.part))
    (hev : ∀ k ∈ ks.take i, ∃ v, fe' (k.num : Int) = some v ∧ DatIn (tl ++ pool) v (.tuple [.int (hereOf k.num), .int (thereOf k.num)]))
    (hhv : ∀ k ∈ ks.take i, ∃ tok, fh' (k.num : Int) = some (.int (num : Int) tok)) (hsame : ∀ z : Int, (∀ k ∈ ks.take i, z ≠ (k.num : Int)) → fe' z = fe z ∧ fh' z = fh z) (hab : ∀ p ∈ tl, @LT.lt Nat _ pt p.1)
    (hR : R = tl ++ pool ++ own) (hl1 : AllLt D1.1 R) (hl2 : AllLt D2.1 R) (hp1 : @LT.lt Nat _ pt D1.1) (hp2 : @LT.lt Nat _ pt D2.1)
    (hv1 : DatIn [D1] v1 (.tuple [.int (hereOf k.num), .int (thereOf k.num)])) (hv2 : DatIn (D2 :: D1 :: (tl ++ pool)) v2 (partDat k.part))
    (hde : DictI eo (fun z => if z = (k.num : Int) then some v1 else fe' z) (T0 + i + 1)) (hdh : DictI ho (fun z => if z = (k.num : Int) then some (.int (num : Int) tk1) else fh' z) (T0 + i + 1))
    (hm : ∀ y, y ≠ PySem.Str.ofString "one" → m' y = m₁ y)
    (hs : s₃ = { s with heap := h, toks := tk }) (F : Fr g L h m')
    (N : News g L h (D2 :: D1 :: (pt, listOf (qvs ++ [v2]).toArray e4') :: (pl, po) :: (hd, ho) :: (ed, eo) :: (cn, co) :: (x, instObj 57 dx) :: (dx, dictOf [⟨hh1, .str (PySem.Str.ofString "nodes") t1, .ref nl⟩, ⟨hh2, .str (PySem.Str.ofString "waiting") t2, .ref wl⟩] nd) :: (nl, listOf nvs.toArray e1) :: (wl, listOf wvs.toArray e2) :: R)) :
    ForEnd g L [pt, hd, ed] own ((pt, listOf (List.toArray qvs) e4) :: (pl, po) :: (hd, ho0) :: (ed, eo0) :: (cn, co) :: treeIs x dx nl wl hh1 hh2 t1 t2 nd nvs wvs e1 e2 (tl ++ pool)) (FJ m₁ pt pl hd ed cn x dx nl wl po co hh1 hh2 t1 t2 nd nvs wvs e1 e2 pool fe fh T0 num ks (i + 1)) s s₃ := by
  subst hR
  have up : ∀ p ∈ tl ++ pool, p ∈ (D2 :: D1 :: tl) ++ pool := fun p hp => .tail _ (.tail _ hp)
  have et : ks.take (i + 1) = ks.take i ++ [k] := by rw [List.take_add_one, hk]; rfl
  refine ⟨h, tk, m', (pt, listOf (qvs ++ [v2]).toArray e4') :: (pl, po) :: (hd, ho) :: (ed, eo) :: (cn, co) :: treeIs x dx nl wl hh1 hh2 t1 t2 nd nvs wvs e1 e2 ((D2 :: D1 :: tl) ++ pool), hs, F, newsSub N ?_, ?_, m', qvs ++ [v2], _, eo, ho, _, _, D2 :: D1 :: tl, ?_, rfl, ?_, hde, hdh, ?_, ?_, ?_, ?_⟩
  · intro p hp
    simp only [treeIs, List.mem_cons, List.mem_append, List.cons_append] at hp ⊢
    rcases hp with h | h | h | h | h | h | h | h | h | h | h | h | h | h <;> simp [h]
  · intro p hp
    simp only [treeIs, List.mem_cons, List.cons_append] at hp
    rcases hp with rfl | rfl | rfl | rfl | rfl | rfl | rfl | rfl | rfl | rfl | rfl | hp
    · exact .inr (.inl (.head _))
    · exact .inl (.tail _ (.head _))
    · exact .inr (.inl (.tail _ (.head _)))
    · exact .inr (.inl (.tail _ (.tail _ (.head _))))
    · exact .inl (.tail _ (.tail _ (.tail _ (.tail _ (.head _)))))
    · exact .inl (.tail _ (.tail _ (.tail _ (.tail _ (.tail _ (.head _))))))
    · exact .inl (.tail _ (.tail _ (.tail _ (.tail _ (.tail _ (.tail _ (.head _)))))))
    · exact .inl (.tail _ (.tail _ (.tail _ (.tail _ (.tail _ (.tail _ (.tail _ (.head _))))))))
    · exact .inl (.tail _ (.tail _ (.tail _ (.tail _ (.tail _ (.tail _ (.tail _ (.tail _ (.head _)))))))))
    · exact .inr (.inr fun q hq => allLt_mem hl2 _ (List.mem_append_right _ hq))
    · exact .inr (.inr fun q hq => allLt_mem hl1 _ (List.mem_append_right _ hq))
    · exact .inl (.tail _ (.tail _ (.tail _ (.tail _ (.tail _ (.tail _ (.tail _ (.tail _ (.tail _ hp)))))))))
  · funext y
    by_cases hy : y = PySem.Str.ofString "one"
    · rw [if_pos hy]
    · rw [if_neg hy]; exact hm y hy
  · rw [et, List.map_append]
    exact (hq.mono up).append (.one hv2)
  · intro k' hk'
    by_cases e : k'.num = k.num
    · rw [e, if_pos rfl]
      exact ⟨v1, rfl, hv1.mono fun p hp => by rw [List.mem_singleton.mp hp]; exact .tail _ (.head _)⟩
    · rw [if_neg (by omega)]
      rw [et] at hk'
      rcases List.mem_append.mp hk' with hk' | hk'
      · obtain ⟨v, a, b⟩ := hev k' hk'
        exact ⟨v, a, b.mono up⟩
      · rw [List.mem_singleton.mp hk'] at e; exact absurd rfl e
  · intro k' hk'
    by_cases e : k'.num = k.num
    · rw [e, if_pos rfl]
      exact ⟨tk1, rfl⟩
    · rw [if_neg (by omega)]
      rw [et] at hk'
      rcases List.mem_append.mp hk' with hk' | hk'
      · exact hhv k' hk'
      · rw [List.mem_singleton.mp hk'] at e; exact absurd rfl e
  · intro z hz
    rw [et] at hz
    have h0 := hz k (List.mem_append_right _ (.head _))
    rw [if_neg h0, if_neg h0]
    exact hsame z fun k' hk' => hz k' (List.mem_append_left _ hk')
  · intro p hp
    rcases List.mem_cons.mp hp with rfl | hp
    · exact hp2
    · rcases List.mem_cons.mp hp with rfl | hp
      · exact hp1
      · exact hab p hp
theorem for_held {prog : Program} {w : World} {A : Around} {E : Value → Shared → Prop} {env : Env} {h₀ : Heap} {body : List PySem.Stmt} {Q : Flow → Shared → Prop} {pt l : Addr} {po co : Obj} {e4 n : Nat} {vs : List Value} {pv0 : Array Value} (T0 num : Nat) (ks : List Tr)
    (hh : A.handled = none) (F : Fr h₀ env.locals s.heap m₀)
    (N : News h₀ env.locals s.heap ((pt, listOf pv0 e4) :: (pl, po) :: (hd, ho) :: (ed, eo) :: (cn, co) :: (x, instObj 57 dx) :: (dx, dictOf [⟨hh1, .str (PySem.Str.ofString "nodes") t1, .ref nl⟩, ⟨hh2, .str (PySem.Str.ofString "waiting") t2, .ref wl⟩] nd) :: (nl, listOf nvs.toArray e1) :: (wl, listOf wvs.toArray e2) :: pool))
    (hv0 : pv0 = List.toArray []) (hm : (l, listOf vs.toArray n) ∈ pool) (hp : ∀ p ∈ pool, p.1 ≠ pt) (o2 : ∀ p ∈ pool, p.1 ≠ hd) (o3 : ∀ p ∈ pool, p.1 ≠ ed) (hde : DictI eo fe T0) (hdh : DictI ho fh T0)
    (turn : ∀ i v m nx h tk own (sv : Shared) (W : Flow → Shared → Prop), vs[i]? = some v → FJ m₀ pt pl hd ed cn x dx nl wl po co hh1 hh2 t1 t2 nd nvs wvs e1 e2 pool fe fh T0 num ks i m nx → Fr h₀ env.locals h (fun y => if y = PySem.Str.ofString "one" then some v else m y) → News h₀ env.locals h (own ++ nx) → (∀ p ∈ own, p.1 ∉ [pt, hd, ed]) →
      Hid (∀ s₃, ForEnd h₀ env.locals [pt, hd, ed] own nx (FJ m₀ pt pl hd ed cn x dx nl wl po co hh1 hh2 t1 t2 nd nvs wvs e1 e2 pool fe fh T0 num ks (i + 1)) { sv with heap := h, toks := tk } s₃ → W .next s₃) →
      wpAny (model prog w) A (execs body env) W (fun _ _ => False) { sv with heap := h, toks := tk })
    (done : ∀ m nx h tk, FJ m₀ pt pl hd ed cn x dx nl wl po co hh1 hh2 t1 t2 nd nvs wvs e1 e2 pool fe fh T0 num ks vs.length m nx → Fr h₀ env.locals h m → News h₀ env.locals h nx → Q .next { s with heap := h, toks := tk }) :
    wpAny (model prog w) A (pyIter (.ref l)) (fun it s₂ => LoopAtV prog w A h₀ env (PySem.Str.ofString "one") body Q E it s₂) E s := by
  subst hv0
  refine for_list [pt, hd, ed] (FJ m₀ pt pl hd ed cn x dx nl wl po co hh1 hh2 t1 t2 nd nvs wvs e1 e2 pool fe fh T0 num ks) hh (.tail _ (.tail _ (.tail _ (.tail _ (.tail _ (.tail _ (.tail _ (.tail _ (.tail _ hm))))))))) ?_ ?_ F N
    ⟨m₀, [], e4, eo, ho, fe, fh, [], map0, rfl, .nil, hde, hdh, (fun _ h => nomatch h), (fun _ h => nomatch h), (fun _ _ => ⟨rfl, rfl⟩), (fun _ h => nomatch h)⟩ (fun i v m nx h tk own a b c d e => wpAny_mono (turn i v m nx h tk own s _ a b c d e ⟨fun _ h => h⟩) (fun _ _ h => h) fun _ _ h => h.elim) done
  · intro h
    simp only [List.mem_cons, List.not_mem_nil, or_false] at h
    rcases h with h | h | h
    · exact hp _ hm h
    · exact o2 _ hm h
    · exact o3 _ hm h
  · intro b h
    simp only [List.mem_cons, List.not_mem_nil, or_false] at h
    rcases h with rfl | rfl | rfl
    · exact ⟨_, .head _⟩
    · exact ⟨_, .tail _ (.tail _ (.head _))⟩
    · exact ⟨_, .tail _ (.tail _ (.tail _ (.head _)))⟩
theorem node_next {pt : Addr} {tl tl2 : List (Addr × Obj)} {e4 : Nat} {fe' fh' : Int → Option Value} {qvs nvs' wvs' : List Value} {eo' ho' : Obj} (I : Inv S root pls ((q, t) :: Wk) TT Nd) (hw : t.wd ≠ .leaf)
    (hpv : DatAll [] pvs (plsDat pls)) (hE : Ends pool fe ((q, t) :: Wk)) (hH : Holds fh pls ((q, t) :: Wk)) (hoff : offAll [pl, hd, ed, cn, x, dx, nl, wl] pool) (hrv : DatIn pool rv root.dat)
    (hde : DictI eo' fe' (TT.length + t.kids.length)) (hdh : DictI ho' fh' (TT.length + t.kids.length))
    (hev : ∀ k ∈ t.kids, ∃ v, fe' (k.num : Int) = some v ∧ DatIn (tl ++ pool) v (.tuple [.int (hereOf k.num), .int (thereOf k.num)]))
    (hhv : ∀ k ∈ t.kids, ∃ tok, fh' (k.num : Int) = some (.int (pls.length : Int) tok)) (hsame : ∀ z : Int, (∀ k ∈ t.kids, z ≠ (k.num : Int)) → fe' z = fe z ∧ fh' z = fh z) (hab : ∀ p ∈ tl, @LT.lt Nat _ pt p.1)
    (hpt : ∀ b ∈ [pl, hd, ed, cn, x, dx, nl, wl], @LT.lt Nat _ b pt) (hxn : @LT.lt Nat _ x nl) (hdn : @LT.lt Nat _ dx nl)
    (hnv : DatAll (tl2 ++ (tl ++ pool)) nvs' (Nd ++ (t.kids.map Tr.part).map fun p => goalDat p.1)) (hwv : DatAll (tl2 ++ (tl ++ pool)) wvs' ((Wk.map wkDat).reverse ++ waits Nd.length (t.kids.map Tr.part)))
    (hr : DatIn tl2 r (.tuple [.str t.wd.str, .list (countFrom Nd.length (t.kids.map Tr.part).length)]))
    (h2 : ∀ p ∈ tl2, @LT.lt Nat _ nl p.1 ∧ @LT.lt Nat _ wl p.1 ∧ ∀ z ∈ (pt, listOf qvs.toArray e4) :: (pl, listOf (pvs ++ [Value.int (q : Int) tq]).toArray e3) :: (hd, ho') :: (ed, eo') :: (cn, listOf (List.toArray [Value.int (S : Int) tn]) ec) :: (tl ++ pool), z.1 < p.1)
    (hm : ∀ y, y ≠ PySem.Str.ofString "place" → y ≠ PySem.Str.ofString "part" → y ≠ PySem.Str.ofString "here" → y ≠ PySem.Str.ofString "there" → y ≠ PySem.Str.ofString "number" → y ≠ PySem.Str.ofString "word" → y ≠ PySem.Str.ofString "held" → y ≠ PySem.Str.ofString "parts" → y ≠ PySem.Str.ofString "one" → m' y = m₀ y)
    (hs : s₃ = { s with heap := h, toks := tk }) (F : Fr g L h m')
    (N : News g L h ((x, instObj 57 dx) :: (dx, dictOf [⟨hh1, .str (PySem.Str.ofString "nodes") t1, .ref nl⟩, ⟨hh2, .str (PySem.Str.ofString "waiting") t2, .ref wl⟩] nd) :: (nl, listOf (nvs'.set q r).toArray e1) :: (wl, listOf wvs'.toArray e2) :: (tl2 ++ (pt, listOf qvs.toArray e4) :: (pl, listOf (pvs ++ [Value.int (q : Int) tq]).toArray e3) :: (hd, ho') :: (ed, eo') :: (cn, listOf (List.toArray [Value.int (S : Int) tn]) ec) :: (tl ++ pool)))) :
    ∃ h' tk m₂ news₂ n', s₃ = { s with heap := h', toks := tk } ∧ Fr g L h' m₂ ∧ News g L h' news₂ ∧ n' < Tr.sizes (((q, t) :: Wk).map Prod.snd) ∧ LJ S root m₀ pl hd ed cn x dx nl wl hh1 hh2 t1 t2 tn nd ec rv n' m₂ news₂ := by
  have up : ∀ p ∈ tl ++ pool, p ∈ tl2 ++ (tl ++ pool) := fun p hp => List.mem_append_right _ hp
  have up0 : ∀ p ∈ pool, p ∈ tl2 ++ (tl ++ pool) := fun p hp => up _ (List.mem_append_right _ hp)
  have hq : q < Nd.length := (List.getElem?_eq_some_iff.mp (I.wk (q, t) (.head _)).2.2).1
  have hkn := I.kids_num
  have hrn := I.rest_num
  have sm : ∀ p ∈ Wk, fe' (p.2.num : Int) = fe (p.2.num : Int) ∧ fh' (p.2.num : Int) = fh (p.2.num : Int) := by
    intro p hp
    refine hsame _ fun k hk => ?_
    have h1 := hkn k hk
    have h2 := hrn p hp
    omega
  have ed1 : (t.kids.map Tr.part).map (fun p => goalDat p.1) = t.kids.map fun k => goalDat k.dat := by
    rw [List.map_map]; rfl
  have ed2 : (Wk.map wkDat).reverse ++ waits Nd.length (t.kids.map Tr.part) = ((kidsAt Nd.length t.kids ++ Wk).map wkDat).reverse := by
    rw [waits_kids, List.map_append, List.reverse_append]
  rw [ed1] at hnv
  rw [ed2] at hwv
  rw [List.length_map] at hr
  refine ⟨h, tk, m', _, Tr.sizes ((kidsAt Nd.length t.kids ++ Wk).map Prod.snd), hs, F, newsSub N ?_, ?_, m', pls ++ [q], kidsAt Nd.length t.kids ++ Wk, TT ++ t.kids, _, nvs'.set q r, wvs', pvs ++ [Value.int (q : Int) tq], e1, e2, e3, eo', ho', fe', fh', tl2 ++ (tl ++ pool), norm9 hm, rfl, I.node hw, rfl, datAll_set hnv (hr.mono fun p hp => List.mem_append_left _ hp), hwv, pls_snoc hpv, by rw [List.length_append]; exact hde, by rw [List.length_append]; exact hdh, ?_, ?_, ?_, hrv.mono up0⟩
  · intro p hp
    simp only [treeIs, List.mem_cons, List.mem_append] at hp ⊢
    rcases hp with h | h | h | h | h | h | h | h | h | h | h <;> simp [h]
  · have e : t.size = Tr.sizes t.kids + 1 := by cases t; rfl
    rw [List.map_append, kidsAt_snd, Tr.sizes_append]
    simp only [List.map_cons, Tr.sizes]
    omega
  · intro p hp
    rcases List.mem_append.mp hp with hp | hp
    · obtain ⟨v, a, b⟩ := hev p.2 (List.mem_of_getElem? (kidsAt_mem hp).2.2)
      exact ⟨v, a, b.mono up⟩
    · obtain ⟨v, a, b⟩ := hE p (.tail _ hp)
      exact ⟨v, by rw [(sm p hp).1]; exact a, b.mono up0⟩
  · intro p hp h0
    rcases List.mem_append.mp hp with hp | hp
    · obtain ⟨tok, a⟩ := hhv p.2 (List.mem_of_getElem? (kidsAt_mem hp).2.2)
      exact ⟨pls.length, tok, q, a, by simp, Nat.lt_of_lt_of_le hq (kidsAt_mem hp).1⟩
    · obtain ⟨hn, tok, q', a, b, c⟩ := hH p (.tail _ hp) h0
      exact ⟨hn, tok, q', by rw [(sm p hp).2]; exact a, by rw [List.getElem?_append_left (List.getElem?_eq_some_iff.mp b).1]; exact b, c⟩
  · intro b hb p hp
    rcases List.mem_append.mp hp with hp | hp
    · obtain ⟨a1, a2, a3⟩ := h2 p hp
      simp only [List.mem_cons, List.not_mem_nil, or_false] at hb
      rcases hb with rfl | rfl | rfl | rfl | rfl | rfl | rfl | rfl
      · exact Nat.ne_of_gt (a3 _ (.tail _ (.head _)))
      · exact Nat.ne_of_gt (a3 _ (.tail _ (.tail _ (.head _))))
      · exact Nat.ne_of_gt (a3 _ (.tail _ (.tail _ (.tail _ (.head _)))))
      · exact Nat.ne_of_gt (a3 _ (.tail _ (.tail _ (.tail _ (.tail _ (.head _))))))
      · exact Nat.ne_of_gt (Nat.lt_trans hxn a1)
      · exact Nat.ne_of_gt (Nat.lt_trans hdn a1)
      · exact Nat.ne_of_gt a1
      · exact Nat.ne_of_gt a2
    · rcases List.mem_append.mp hp with hp | hp
      · exact Nat.ne_of_gt (Nat.lt_trans (hpt b hb) (hab p hp))
      · exact hoff b hb p hp
end
/-- a mark: the walk is to stop at the next if -/
structure MarkIf : Prop where
def TkEnd {α : Type} (v₀ : α) (s : Shared) (v : α) (s' : Shared) : Prop := v = v₀ ∧ ∃ tk, s' = { s with toks := tk }
theorem if_false {prog : Program} {w : World} {A : Around} {E : Value → Shared → Prop} {Q : Flow → Shared → Prop} {s : Shared} {env : Env} {test : PySem.Expr} {body orelse : List PySem.Stmt} {pos : Pos}
    (h1 : wpAny (model prog w) A (isTrue test env (eval test env)) (TkEnd false s) E s) (h2 : ∀ tk, wpAny (model prog w) A (execs orelse env) Q E { s with toks := tk }) : wpAny (model prog w) A (exec (.If test body orelse pos) env) Q E s := by
  refine wpAny_If (wpAny_mono h1 (fun b s₂ h => ?_) fun _ _ e => e)
  obtain ⟨rfl, tk, rfl⟩ := h
  exact h2 tk
theorem ht8_of {pl hd ed cn x dx nl wl pt : Addr} {pool : List (Addr × Obj)} (h : @LT.lt Nat _ pl pt ∧ @LT.lt Nat _ hd pt ∧ @LT.lt Nat _ ed pt ∧ @LT.lt Nat _ cn pt ∧ @LT.lt Nat _ x pt ∧ @LT.lt Nat _ dx pt ∧ @LT.lt Nat _ nl pt ∧ @LT.lt Nat _ wl pt ∧ AllLt pt pool) :
    (∀ b ∈ [pl, hd, ed, cn, x, dx, nl, wl], @LT.lt Nat _ b pt) ∧ ∀ p ∈ pool, p.1 ≠ pt := by
  obtain ⟨a1, a2, a3, a4, a5, a6, a7, a8, a9⟩ := h
  refine ⟨?_, fun p hp => Nat.ne_of_lt (allLt_mem a9 p hp)⟩
  (repeat' (refine List.forall_mem_cons.mpr ⟨?_, ?_⟩))
  all_goals first | assumption | exact fun _ h => nomatch h
theorem held_off {pl hd ed cn x dx nl wl pt : Addr} {tl pool own : List (Addr × Obj)} (hab : ∀ p ∈ tl, @LT.lt Nat _ pt p.1) (hP : ∀ p ∈ pool, p.1 ≠ pt) (o2 : ∀ p ∈ pool, p.1 ≠ hd) (o3 : ∀ p ∈ pool, p.1 ≠ ed)
    (hL : ∀ b ∈ [pl, hd, ed, cn, x, dx, nl, wl], @LT.lt Nat _ b pt) (ho : ∀ p ∈ own, p.1 ∉ [pt, hd, ed]) :
    (∀ p ∈ tl ++ pool ++ own, p.1 ≠ pt) ∧ (∀ p ∈ tl ++ pool ++ own, p.1 ≠ hd) ∧ ∀ p ∈ tl ++ pool ++ own, p.1 ≠ ed := by
  have key : ∀ b : Addr, (∀ p ∈ tl, p.1 ≠ b) → (∀ p ∈ pool, p.1 ≠ b) → b ∈ [pt, hd, ed] → ∀ p ∈ tl ++ pool ++ own, p.1 ≠ b := by
    intro b h1 h2 h3 p hp
    rcases List.mem_append.mp hp with hp | hp
    · rcases List.mem_append.mp hp with hp | hp
      · exact h1 p hp
      · exact h2 p hp
    · exact fun e => ho p hp (e ▸ h3)
  exact ⟨key _ (fun p hp => Nat.ne_of_gt (hab p hp)) hP (.head _), key _ (fun p hp => Nat.ne_of_gt (Nat.lt_trans (hL _ (.tail _ (.head _))) (hab p hp))) o2 (.tail _ (.head _)),
    key _ (fun p hp => Nat.ne_of_gt (Nat.lt_trans (hL _ (.tail _ (.tail _ (.head _)))) (hab p hp))) o3 (.tail _ (.tail _ (.head _)))⟩
theorem Inv.kid_num {S : Nat} {root : Tr} {pls : List Nat} {Wk : List (Nat × Tr)} {TT : List Tr} {Nd : List Dat} {q : Nat} {t k : Tr} (I : Inv S root pls ((q, t) :: Wk) TT Nd) (hS : S ≤ 40) (hk : k ∈ t.kids) : pls.length < k.num ∧ k.num < 41 := by
  have h1 := I.kids_num k hk
  have htot := I.tot
  simp only [List.map_cons, Tr.sizes] at htot
  omega
theorem newsHold {g h : Heap} {L : Addr} {a b c d e x1 x2 x3 x4 : Addr × Obj} {r : List (Addr × Obj)} (N : News g L h (a :: b :: c :: d :: e :: x1 :: x2 :: x3 :: x4 :: r)) : News g L h (x1 :: x2 :: x3 :: x4 :: a :: b :: c :: d :: e :: r) := newsSub N fun p hp => by
  simp only [List.mem_cons] at hp ⊢
  rcases hp with h | h | h | h | h | h | h | h | h | h <;> simp [h]
theorem off_rest {pl hd ed cn x dx nl wl pt b : Addr} {o1 o2 o3 o4 o5 : Obj} {tl pool : List (Addr × Obj)} (hL : ∀ b ∈ [pl, hd, ed, cn, x, dx, nl, wl], @LT.lt Nat _ b pt) (hb : b ∈ [pl, hd, ed, cn, x, dx, nl, wl]) (hab : ∀ p ∈ tl, @LT.lt Nat _ pt p.1) (hp : ∀ p ∈ pool, p.1 ≠ b)
    (h1 : @Ne Nat pl b) (h2 : @Ne Nat hd b) (h3 : @Ne Nat ed b) (h4 : @Ne Nat cn b) : ∀ p ∈ (pt, o1) :: (pl, o2) :: (hd, o3) :: (ed, o4) :: (cn, o5) :: (tl ++ pool), p.1 ≠ b := by
  intro p h
  rcases List.mem_cons.mp h with rfl | h
  · exact Nat.ne_of_gt (hL b hb)
  rcases List.mem_cons.mp h with rfl | h
  · exact h1
  rcases List.mem_cons.mp h with rfl | h
  · exact h2
  rcases List.mem_cons.mp h with rfl | h
  · exact h3
  rcases List.mem_cons.mp h with rfl | h
  · exact h4
  rcases List.mem_append.mp h with h | h
  · exact Nat.ne_of_gt (Nat.lt_trans (hL b hb) (hab p h))
  · exact hp p h
theorem off_tl {b : Addr} {tl rest : List (Addr × Obj)} {P : Addr × Obj → Prop} (h1 : ∀ p ∈ tl, @LT.lt Nat _ b p.1 ∧ P p) (h2 : ∀ p ∈ rest, p.1 ≠ b) : ∀ p ∈ tl ++ rest, p.1 ≠ b := fun p hp =>
  (List.mem_append.mp hp).elim (fun h => Nat.ne_of_gt (h1 p h).1) (h2 p)
theorem off_restN {g h : Heap} {L : Addr} {pl hd ed cn x dx nl wl pt : Addr} {o1 o2 o3 o4 o5 o6 o7 o8 o9 : Obj} {tl pool : List (Addr × Obj)} (_ : News g L h ((pt, o1) :: (pl, o2) :: (hd, o3) :: (ed, o4) :: (cn, o5) :: (x, o6) :: (dx, o7) :: (nl, o8) :: (wl, o9) :: (tl ++ pool))) (hL : ∀ b ∈ [pl, hd, ed, cn, x, dx, nl, wl], @LT.lt Nat _ b pt) (hab : ∀ p ∈ tl, @LT.lt Nat _ pt p.1)
    (h7 : ∀ p ∈ pool, p.1 ≠ nl) (h8 : ∀ p ∈ pool, p.1 ≠ wl) (f1 : @Ne Nat pl nl ∧ @Ne Nat pl wl) (f2 : @Ne Nat hd nl ∧ @Ne Nat hd wl) (f3 : @Ne Nat ed nl ∧ @Ne Nat ed wl) (f4 : @Ne Nat cn nl ∧ @Ne Nat cn wl) :
    (∀ p ∈ (pt, o1) :: (pl, o2) :: (hd, o3) :: (ed, o4) :: (cn, o5) :: (tl ++ pool), p.1 ≠ nl) ∧ ∀ p ∈ (pt, o1) :: (pl, o2) :: (hd, o3) :: (ed, o4) :: (cn, o5) :: (tl ++ pool), p.1 ≠ wl :=
  ⟨off_rest hL (.tail _ (.tail _ (.tail _ (.tail _ (.tail _ (.tail _ (.head _))))))) hab h7 f1.1 f2.1 f3.1 f4.1, off_rest hL (.tail _ (.tail _ (.tail _ (.tail _ (.tail _ (.tail _ (.tail _ (.head _)))))))) hab h8 f1.2 f2.2 f3.2 f4.2⟩
theorem newsGoal {g h : Heap} {L : Addr} {a b c d x1 x2 x3 x4 : Addr × Obj} {r : List (Addr × Obj)} (N : News g L h (a :: b :: c :: d :: x1 :: x2 :: x3 :: x4 :: r)) : News g L h (x1 :: x2 :: x3 :: x4 :: a :: b :: c :: d :: r) := newsSub N fun p hp => by
  simp only [List.mem_cons] at hp ⊢
  rcases hp with h | h | h | h | h | h | h | h | h <;> simp [h]
theorem turn_abs {prog : Program} {w : World} {A : Around} {E : Value → Shared → Prop} {Q : Flow → Shared → Prop} {s : Shared} {env : Env} {h₀ h₁ : Heap} {L : Addr} {test : PySem.Expr} {body : List PySem.Stmt} {n tk₁ : Nat} {J : Nat → (Str → Option Value) → List (Addr × Obj) → Prop}
    (h : ∀ (sv : Shared) (W : Flow → Shared → Prop), Hid (∀ f s₃, WhileStep2 h₀ L sv J Q n f s₃ → W f s₃) →
      wpAny (model prog w) A (isTrue test env (eval test env)) (fun b s₂ => if b = true then wpAny (model prog w) A (execs body env) W (fun _ _ => False) s₂ else False) (fun _ _ => False) { sv with heap := h₁, toks := tk₁ }) :
    wpAny (model prog w) A (isTrue test env (eval test env)) (fun b s₂ => if b = true then wpAny (model prog w) A (execs body env) (WhileStep2 h₀ L s J Q n) E s₂ else Q .next s₂) E { s with heap := h₁, toks := tk₁ } := by
  refine wpAny_mono (h s _ ⟨fun _ _ h => h⟩) (fun b s₂ hb => ?_) fun _ _ e => e.elim
  cases b with
  | false => exact absurd hb (by simp)
  | true => exact wpAny_mono hb (fun _ _ h => h) fun _ _ e => e.elim
end
section
/-- what the loop of law knows while a part waits -/
def Kp (S : Nat) (root : Tr) (pl hd ed cn x dx nl wl : Addr) (rv : Value) (pls : List Nat) (q : Nat) (wd : Wd) (ks : List Tr) (Wk : List (Nat × Tr)) (TT : List Tr) (Nd : List Dat) (nvs wvs pvs kvs : List Value) (eo ho : Obj) (fe fh : Int → Option Value) (pool : List (Addr × Obj)) (Dw Dt Dn : Addr) (ve : Value) : Prop :=
  (DatAll pool wvs (Wk.map wkDat).reverse ∧ (∀ d ∈ (Wk.map wkDat).reverse ++ [wkDat (q, Tr.mk pls.length wd ks)], kqdOk 9 d = true) ∧ DatAll pool (wvs ++ [Value.ref Dw]) ((Wk.map wkDat).reverse ++ [wkDat (q, Tr.mk pls.length wd ks)])) ∧
  (DatAll pool nvs Nd ∧ DatAll [] pvs (plsDat pls) ∧ q ∉ pls) ∧ (Ends pool fe ((q, Tr.mk pls.length wd ks) :: Wk) ∧ Holds fh pls ((q, Tr.mk pls.length wd ks) :: Wk)) ∧
  (DatIn pool (.ref Dn) (goalDat (Tr.mk pls.length wd ks).dat) ∧ DatIn pool ve (.tuple [.int (hereOf pls.length), .int (thereOf pls.length)]) ∧ DatAll pool kvs (Tr.dats ks) ∧ DatIn pool rv root.dat ∧ DatIn pool (.ref Dt) (Tr.mk pls.length wd ks).dat) ∧
  DictI eo fe TT.length ∧ DictI ho fh TT.length ∧ offAll [pl, hd, ed, cn, x, dx, nl, wl] pool
theorem LJ.elim {C : Prop} {g h : Heap} {L : Addr} {S : Nat} {root : Tr} {m₀ : Str → Option Value} {pl hd ed cn x dx nl wl : Addr} {hh1 hh2 : Int} {t1 t2 tn : Tok} {nd ec : Nat} {rv : Value} {n : Nat} {m : Str → Option Value} {nx : List (Addr × Obj)}
    (hJ : LJ S root m₀ pl hd ed cn x dx nl wl hh1 hh2 t1 t2 tn nd ec rv n m nx) (hsz : S ≤ 40) (F : Fr g L h m) (N : News g L h nx)
    (nil : ∀ (u : Str → Option Value) (pls : List Nat) (TT : List Tr) (Nd : List Dat) (nvs wvs pvs : List Value) (e1 e2 e3 : Nat) (eo ho : Obj) (pool : List (Addr × Obj)), Fr g L h (turnMap u m₀) →
      News g L h ((pl, listOf (List.toArray pvs) e3) :: (hd, ho) :: (ed, eo) :: (cn, listOf (List.toArray [Value.int (S : Int) tn]) ec) :: (x, instObj 57 dx) :: (dx, dictOf [⟨hh1, .str (PySem.Str.ofString "nodes") t1, .ref nl⟩, ⟨hh2, .str (PySem.Str.ofString "waiting") t2, .ref wl⟩] nd) :: (nl, listOf nvs.toArray e1) :: (wl, listOf wvs.toArray e2) :: pool) →
      TT.length = Nd.length → TT.length ≤ S → pvs.length = S → 0 < TT.length →
      (DatAll pool nvs Nd ∧ DatIn pool rv root.dat ∧ (∀ i nd mt, Nd[i]? = some nd → (Tr.meants TT)[i]? = some mt → NodeOk (Tr.meants TT) i nd mt) ∧ TT[0]? = some root ∧ DatAll pool wvs []) → C)
    (cons : ∀ (u : Str → Option Value) (pls : List Nat) (q : Nat) (wd : Wd) (ks : List Tr) (Wk : List (Nat × Tr)) (TT : List Tr) (Nd : List Dat) (nvs wvs pvs kvs : List Value) (e1 e2 e3 nk : Nat) (eo ho : Obj) (fe fh : Int → Option Value) (pool : List (Addr × Obj)) (Dw Dt Dk Dn : Addr) (ve : Value) (tq th tt tm tw : Tok) (nw nt : Nat), Fr g L h (turnMap u m₀) →
      News g L h ((pl, listOf (List.toArray pvs) e3) :: (hd, ho) :: (ed, eo) :: (cn, listOf (List.toArray [Value.int (S : Int) tn]) ec) :: (x, instObj 57 dx) :: (dx, dictOf [⟨hh1, .str (PySem.Str.ofString "nodes") t1, .ref nl⟩, ⟨hh2, .str (PySem.Str.ofString "waiting") t2, .ref wl⟩] nd) :: (nl, listOf nvs.toArray e1) :: (wl, listOf (wvs ++ [Value.ref Dw]).toArray e2) :: pool) →
      Inv S root pls ((q, Tr.mk pls.length wd ks) :: Wk) TT Nd → n = Tr.sizes (((q, Tr.mk pls.length wd ks) :: Wk).map Prod.snd) →
      (Dw, ({ cls := .type "tuple", data := .seq (List.toArray [.int (q : Int) tq, .ref Dt, .int (hereOf pls.length) th, .int (thereOf pls.length) tt]) nw } : Obj)) ∈ pool →
      (Dt, ({ cls := .type "tuple", data := .seq (List.toArray [.int (pvs.length : Int) tm, .str wd.str tw, .ref Dk]) nt } : Obj)) ∈ pool → (Dk, listOf kvs.toArray nk) ∈ pool →
      nvs[q]? = some (.ref Dn) → fe (pvs.length : Int) = some ve → wvs.length = Wk.length → TT.length ≤ S → TT.length = pls.length + (Wk.length + 1) → pvs.length = pls.length → q < nvs.length → q < TT.length → TT.length = Nd.length →
      (∀ p ∈ pool, p.1 ≠ pl) → (∀ p ∈ pool, p.1 ≠ hd) → (∀ p ∈ pool, p.1 ≠ ed) → (∀ p ∈ pool, p.1 ≠ cn) → (∀ p ∈ pool, p.1 ≠ x) → (∀ p ∈ pool, p.1 ≠ dx) → (∀ p ∈ pool, p.1 ≠ nl) → (∀ p ∈ pool, p.1 ≠ wl) →
      Hid (Kp S root pl hd ed cn x dx nl wl rv pls q wd ks Wk TT Nd nvs wvs pvs kvs eo ho fe fh pool Dw Dt Dn ve) → C) : C := by
  obtain ⟨u, pls, Wk, TT, Nd, nvs, wvs, pvs, e1, e2, e3, eo, ho, fe, fh, pool, rfl, rfl, I, rfl, hnv, hwv, hpv, hde, hdh, hE, hH, hoff, hrv⟩ := hJ
  simp only [treeIs] at N
  rcases Wk with _ | ⟨⟨q, t'⟩, Wk⟩
  · have hS := I.done
    have hpl := hpv.length
    rw [plsDat, List.length_map, hS.1] at hpl
    exact nil u pls TT Nd nvs wvs pvs e1 e2 e3 eo ho pool F N I.len I.bound hpl (List.getElem?_eq_some_iff.mp I.root).1 ⟨hnv, hrv, hS.2, I.root, hwv⟩
  · have hwok := wk_ok I
    rw [List.map_cons, List.reverse_cons] at hwv hwok
    have hwv0 := hwv
    obtain ⟨wvs, v9, rfl, hww, hv9⟩ := datAll_snoc hwv
    have hlw := hww.length
    rw [List.length_reverse, List.length_map] at hlw
    have hcnt := I.cnt
    rw [List.length_cons] at hcnt
    have hnum := I.num
    have hpl := hpv.length
    rw [plsDat, List.length_map] at hpl
    obtain ⟨k1, k2, k3⟩ := I.wk _ (.head _)
    dsimp only at k1 k2 k3
    obtain ⟨vn, hvn, hdn⟩ := datAll_at' hnv k3
    obtain ⟨ve, hve, hdve⟩ := hE _ (.head _)
    dsimp only at hve hdve
    rw [wkDat, waitDat, Tr.part] at hv9
    dsimp only at hv9
    cases hv9 with
    | tuple hm1 hr1 =>
    cases hr1 with
    | cons h1 hr1 =>
    cases h1
    cases hr1 with
    | cons hdt hr1 =>
    cases hr1 with
    | cons h1 hr1 =>
    cases h1
    cases hr1 with
    | cons h1 hr1 =>
    cases h1
    cases hr1
    obtain ⟨num, wd, ks⟩ := t'
    simp only [Tr.num] at hnum
    subst hnum
    have hdt0 := hdt
    rw [Tr.dat] at hdt
    cases hdt with
    | tuple hm2 hr1 =>
    cases hr1 with
    | cons h1 hr1 =>
    cases h1
    cases hr1 with
    | cons h1 hr1 =>
    cases h1
    cases hr1 with
    | cons h1 hr1 =>
    cases hr1
    cases h1 with
    | list hm3 hks =>
    rw [← hpl] at hm2
    have hdn0 := hdn
    rw [goalDat] at hdn
    cases hdn
    have a8 := fun b hb => hoff b hb
    exact cons u pls q wd ks Wk TT Nd nvs wvs pvs _ e1 e2 e3 _ eo ho fe fh pool _ _ _ _ ve _ _ _ _ _ _ _ F N I rfl hm1 hm2 hm3 hvn (by rw [hpl]; exact hve) hlw I.bound hcnt hpl (List.getElem?_eq_some_iff.mp hvn).1 (List.getElem?_eq_some_iff.mp k1).1 I.len
      (a8 _ (.head _)) (a8 _ (.tail _ (.head _))) (a8 _ (.tail _ (.tail _ (.head _)))) (a8 _ (.tail _ (.tail _ (.tail _ (.head _))))) (a8 _ (.tail _ (.tail _ (.tail _ (.tail _ (.head _)))))) (a8 _ (.tail _ (.tail _ (.tail _ (.tail _ (.tail _ (.head _))))))) (a8 _ (.tail _ (.tail _ (.tail _ (.tail _ (.tail _ (.tail _ (.head _)))))))) (a8 _ (.tail _ (.tail _ (.tail _ (.tail _ (.tail _ (.tail _ (.tail _ (.head _)))))))))
      ⟨⟨⟨hww, hwok, hwv0⟩, ⟨hnv, hpv, k2⟩, ⟨hE, hH⟩, ⟨hdn0, hdve, hks, hrv, hdt0⟩, hde, hdh, hoff⟩⟩
section
variable {S : Nat} {root : Tr} {pl hd ed cn x dx nl wl : Addr} {rv : Value} {pls : List Nat} {q : Nat} {wd : Wd} {ks : List Tr} {Wk : List (Nat × Tr)} {TT : List Tr} {Nd : List Dat} {nvs wvs pvs kvs : List Value} {eo ho : Obj} {fe fh : Int → Option Value} {pool : List (Addr × Obj)} {Dw Dt Dn : Addr} {ve : Value}
theorem Kp.hww (K : Hid (Kp S root pl hd ed cn x dx nl wl rv pls q wd ks Wk TT Nd nvs wvs pvs kvs eo ho fe fh pool Dw Dt Dn ve)) : DatAll pool wvs (Wk.map wkDat).reverse := K.out.1.1
theorem Kp.hwok (K : Hid (Kp S root pl hd ed cn x dx nl wl rv pls q wd ks Wk TT Nd nvs wvs pvs kvs eo ho fe fh pool Dw Dt Dn ve)) : ∀ d ∈ (Wk.map wkDat).reverse ++ [wkDat (q, Tr.mk pls.length wd ks)], kqdOk 9 d = true := K.out.1.2.1
theorem Kp.hwv (K : Hid (Kp S root pl hd ed cn x dx nl wl rv pls q wd ks Wk TT Nd nvs wvs pvs kvs eo ho fe fh pool Dw Dt Dn ve)) : DatAll pool (wvs ++ [Value.ref Dw]) ((Wk.map wkDat).reverse ++ [wkDat (q, Tr.mk pls.length wd ks)]) := K.out.1.2.2
theorem Kp.hnv (K : Hid (Kp S root pl hd ed cn x dx nl wl rv pls q wd ks Wk TT Nd nvs wvs pvs kvs eo ho fe fh pool Dw Dt Dn ve)) : DatAll pool nvs Nd := K.out.2.1.1
theorem Kp.hpv (K : Hid (Kp S root pl hd ed cn x dx nl wl rv pls q wd ks Wk TT Nd nvs wvs pvs kvs eo ho fe fh pool Dw Dt Dn ve)) : DatAll [] pvs (plsDat pls) := K.out.2.1.2.1
theorem Kp.hq (K : Hid (Kp S root pl hd ed cn x dx nl wl rv pls q wd ks Wk TT Nd nvs wvs pvs kvs eo ho fe fh pool Dw Dt Dn ve)) : q ∉ pls := K.out.2.1.2.2
theorem Kp.hE (K : Hid (Kp S root pl hd ed cn x dx nl wl rv pls q wd ks Wk TT Nd nvs wvs pvs kvs eo ho fe fh pool Dw Dt Dn ve)) : Ends pool fe ((q, Tr.mk pls.length wd ks) :: Wk) := K.out.2.2.1.1
theorem Kp.hH (K : Hid (Kp S root pl hd ed cn x dx nl wl rv pls q wd ks Wk TT Nd nvs wvs pvs kvs eo ho fe fh pool Dw Dt Dn ve)) : Holds fh pls ((q, Tr.mk pls.length wd ks) :: Wk) := K.out.2.2.1.2
theorem Kp.hdn (K : Hid (Kp S root pl hd ed cn x dx nl wl rv pls q wd ks Wk TT Nd nvs wvs pvs kvs eo ho fe fh pool Dw Dt Dn ve)) : DatIn pool (.ref Dn) (goalDat (Tr.mk pls.length wd ks).dat) := K.out.2.2.2.1.1
theorem Kp.hdve (K : Hid (Kp S root pl hd ed cn x dx nl wl rv pls q wd ks Wk TT Nd nvs wvs pvs kvs eo ho fe fh pool Dw Dt Dn ve)) : DatIn pool ve (.tuple [.int (hereOf pls.length), .int (thereOf pls.length)]) := K.out.2.2.2.1.2.1
theorem Kp.hks (K : Hid (Kp S root pl hd ed cn x dx nl wl rv pls q wd ks Wk TT Nd nvs wvs pvs kvs eo ho fe fh pool Dw Dt Dn ve)) : DatAll pool kvs (Tr.dats ks) := K.out.2.2.2.1.2.2.1
theorem Kp.hrv (K : Hid (Kp S root pl hd ed cn x dx nl wl rv pls q wd ks Wk TT Nd nvs wvs pvs kvs eo ho fe fh pool Dw Dt Dn ve)) : DatIn pool rv root.dat := K.out.2.2.2.1.2.2.2.1
theorem Kp.hdt (K : Hid (Kp S root pl hd ed cn x dx nl wl rv pls q wd ks Wk TT Nd nvs wvs pvs kvs eo ho fe fh pool Dw Dt Dn ve)) : DatIn pool (.ref Dt) (Tr.mk pls.length wd ks).dat := K.out.2.2.2.1.2.2.2.2
theorem Kp.hde (K : Hid (Kp S root pl hd ed cn x dx nl wl rv pls q wd ks Wk TT Nd nvs wvs pvs kvs eo ho fe fh pool Dw Dt Dn ve)) : DictI eo fe TT.length := K.out.2.2.2.2.1
theorem Kp.hdh (K : Hid (Kp S root pl hd ed cn x dx nl wl rv pls q wd ks Wk TT Nd nvs wvs pvs kvs eo ho fe fh pool Dw Dt Dn ve)) : DictI ho fh TT.length := K.out.2.2.2.2.2.1
theorem Kp.hoff (K : Hid (Kp S root pl hd ed cn x dx nl wl rv pls q wd ks Wk TT Nd nvs wvs pvs kvs eo ho fe fh pool Dw Dt Dn ve)) : offAll [pl, hd, ed, cn, x, dx, nl, wl] pool := K.out.2.2.2.2.2.2
/-- the place of the holder -/
theorem Kp.holder {C : Prop} (K : Hid (Kp S root pl hd ed cn x dx nl wl rv pls q wd ks Wk TT Nd nvs wvs pvs kvs eo ho fe fh pool Dw Dt Dn ve)) (hpl : pvs.length = pls.length) (h0 : 0 < (pvs.length : Int)) (hb : pls.length ≤ 1000)
    (k : ∀ (hn : Nat) (tok t2 : Tok) (q' : Nat), fh (pvs.length : Int) = some (.int (hn : Int) tok) → pvs[hn]? = some (.int (q' : Int) t2) → (q' : Int) < (q : Int) → (hn : Int) < 2 ^ 62 → C) : C := by
  obtain ⟨hn, tok, q', hfh, hq', hlt⟩ := Kp.hH K _ (.head _) (by simp only [Tr.num]; omega)
  obtain ⟨v', hv', hd'⟩ := datAll_at' (Kp.hpv K) (i := hn) (d := .int (q' : Int)) (by rw [plsDat, List.getElem?_map, hq']; rfl)
  cases hd'
  have h1 := (List.getElem?_eq_some_iff.mp hq').1
  have h2 : q' < q := hlt
  refine k hn tok _ q' ?_ hv' (by omega) (by omega)
  rw [hpl]
  exact hfh
end
/-- what the inner loop knows -/
def FK (pool : List (Addr × Obj)) (fe fh : Int → Option Value) (num : Nat) (ks : List Tr) (i : Nat) (pt : Addr) (qvs : List Value) (fe' fh' : Int → Option Value) (tl : List (Addr × Obj)) : Prop :=
  DatAll (tl ++ pool) qvs ((ks.take i).map fun k => partDat k.part) ∧ (∀ k ∈ ks.take i, ∃ v, fe' (k.num : Int) = some v ∧ DatIn (tl ++ pool) v (.tuple [.int (hereOf k.num), .int (thereOf k.num)])) ∧
  (∀ k ∈ ks.take i, ∃ tok, fh' (k.num : Int) = some (.int (num : Int) tok)) ∧ (∀ z : Int, (∀ k ∈ ks.take i, z ≠ (k.num : Int)) → fe' z = fe z ∧ fh' z = fh z) ∧ (∀ p ∈ tl, @LT.lt Nat _ pt p.1)
def FR (own tl pool R : List (Addr × Obj)) (D : Addr) (k : Tr) : Prop := R = tl ++ pool ++ own ∧ DatIn pool (.ref D) k.dat
section
variable {C : Prop} {m₀ m m' : Str → Option Value} {pt pl hd ed cn x dx nl wl : Addr} {po co : Obj} {hh1 hh2 : Int} {t1 t2 : Tok} {nd : Nat} {nvs wvs kvs : List Value} {e1 e2 T0 num i : Nat} {pool own nx : List (Addr × Obj)} {fe fh : Int → Option Value} {ks : List Tr} {g h : Heap} {L : Addr} {v : Value} {s s₃ : Shared} {tk : Nat}
theorem FJ.elim (hJ : FJ m₀ pt pl hd ed cn x dx nl wl po co hh1 hh2 t1 t2 nd nvs wvs e1 e2 pool fe fh T0 num ks i m nx) (F : Fr g L h (fun y => if y = PySem.Str.ofString "one" then some v else m y)) (N : News g L h (own ++ nx))
    (hv : kvs[i]? = some v) (hks : DatAll pool kvs (Tr.dats ks)) (hk3 : ks.length ≤ 3) (hkn : ∀ k ∈ ks, num < k.num ∧ k.num < 41) (hP : ∀ p ∈ pool, p.1 ≠ pt) (o2 : ∀ p ∈ pool, p.1 ≠ hd) (o3 : ∀ p ∈ pool, p.1 ≠ ed) (hL : ∀ b ∈ [pl, hd, ed, cn, x, dx, nl, wl], @LT.lt Nat _ b pt) (ho : ∀ p ∈ own, p.1 ∉ [pt, hd, ed])
    (k : ∀ (u : Str → Option Value) (qvs : List Value) (e4 : Nat) (eo ho : Obj) (fe' fh' : Int → Option Value) (tl R : List (Addr × Obj)) (kn : Nat) (kw : Wd) (kks : List Tr) (D : Addr) (a b : Tok) (c : Value) (nt : Nat),
      nx = (pt, listOf (List.toArray qvs) e4) :: (pl, po) :: (hd, ho) :: (ed, eo) :: (cn, co) :: treeIs x dx nl wl hh1 hh2 t1 t2 nd nvs wvs e1 e2 (tl ++ pool) →
      Fr g L h (fun y => if y = PySem.Str.ofString "one" then some (.ref D) else if y = PySem.Str.ofString "one" then u y else m₀ y) →
      News g L h ((pt, listOf (List.toArray qvs) e4) :: (pl, po) :: (hd, ho) :: (ed, eo) :: (cn, co) :: (x, instObj 57 dx) :: (dx, dictOf [⟨hh1, .str (PySem.Str.ofString "nodes") t1, .ref nl⟩, ⟨hh2, .str (PySem.Str.ofString "waiting") t2, .ref wl⟩] nd) :: (nl, listOf nvs.toArray e1) :: (wl, listOf wvs.toArray e2) :: R) →
      (D, ({ cls := .type "tuple", data := .seq (List.toArray [.int (kn : Int) a, .str kw.str b, c]) nt } : Obj)) ∈ R → (∀ p ∈ R, p.1 ≠ pt) → (∀ p ∈ R, p.1 ≠ hd) → (∀ p ∈ R, p.1 ≠ ed) → qvs.length ≤ 3 → i < 3 → ks[i]? = some (Tr.mk kn kw kks) → num < kn → kn < 41 →
      DictI eo fe' (T0 + i) → DictI ho fh' (T0 + i) → Hid (FK pool fe fh num ks i pt qvs fe' fh' tl) → Hid (FR own tl pool R D (Tr.mk kn kw kks)) → C) : C := by
  obtain ⟨u9, qvs, e49, eo9, hO9, fe9, fh9, tl9, rfl, rfl, hq9, hde9, hdh9, hev9, hhv9, hsame9, hab9⟩ := hJ
  obtain ⟨k9, hk9, hvk⟩ := Tr.dats_get hks hv
  obtain ⟨hk0, hkb⟩ := hkn k9 (List.mem_of_getElem? hk9)
  have hi : i < ks.length := (List.getElem?_eq_some_iff.mp hk9).1
  have hql := hq9.length
  rw [List.length_map, List.length_take] at hql
  obtain ⟨kn, kw, kks⟩ := k9
  have hvk0 := hvk
  rw [Tr.dat] at hvk
  cases hvk with
  | tuple hm9 hr9 =>
  cases hr9 with
  | cons h1 hr9 =>
  cases h1
  cases hr9 with
  | cons h1 hr9 =>
  cases h1
  cases hr9 with
  | cons h1 hr9 =>
  cases hr9
  have N7 := newsMove N
  simp only [List.cons_append, treeIs] at N7
  obtain ⟨hRpt, hRhd, hRed⟩ := held_off hab9 hP o2 o3 hL ho
  exact k u9 qvs e49 eo9 hO9 fe9 fh9 tl9 (tl9 ++ pool ++ own) kn kw kks _ _ _ _ _ rfl F N7 (List.mem_append_left own (List.mem_append_right tl9 hm9)) hRpt hRhd hRed (by omega) (by omega) hk9 hk0 hkb hde9 hdh9 ⟨⟨hq9, hev9, hhv9, hsame9, hab9⟩⟩ ⟨⟨rfl, hvk0⟩⟩
theorem FJ.done (hJ : FJ m₀ pt pl hd ed cn x dx nl wl po co hh1 hh2 t1 t2 nd nvs wvs e1 e2 pool fe fh T0 num ks kvs.length m nx) (hks : DatAll pool kvs (Tr.dats ks)) (F : Fr g L h m) (N : News g L h nx)
    (k : ∀ (u : Str → Option Value) (qvs : List Value) (e4 : Nat) (eo ho : Obj) (fe' fh' : Int → Option Value) (tl : List (Addr × Obj)), Fr g L h (fun y => if y = PySem.Str.ofString "one" then u y else m₀ y) →
      News g L h ((pt, listOf (List.toArray qvs) e4) :: (pl, po) :: (hd, ho) :: (ed, eo) :: (cn, co) :: (x, instObj 57 dx) :: (dx, dictOf [⟨hh1, .str (PySem.Str.ofString "nodes") t1, .ref nl⟩, ⟨hh2, .str (PySem.Str.ofString "waiting") t2, .ref wl⟩] nd) :: (nl, listOf nvs.toArray e1) :: (wl, listOf wvs.toArray e2) :: (tl ++ pool)) →
      Hid (DictI eo fe' (T0 + ks.length) ∧ DictI ho fh' (T0 + ks.length)) → Hid (FK pool fe fh num ks ks.length pt qvs fe' fh' tl) → C) : C := by
  have e : kvs.length = ks.length := by rw [hks.length, Tr.dats_length]
  rw [e] at hJ
  obtain ⟨u9, qvs, e49, eo9, hO9, fe9, fh9, tl9, rfl, rfl, hq9, hde9, hdh9, hev9, hhv9, hsame9, hab9⟩ := hJ
  exact k u9 qvs e49 eo9 hO9 fe9 fh9 tl9 F N ⟨⟨hde9, hdh9⟩⟩ ⟨⟨hq9, hev9, hhv9, hsame9, hab9⟩⟩
end
/-- what hold leaves -/
def HoldOut (nl wl : Addr) (rest pool tl : List (Addr × Obj)) (r : Value) (nvs' wvs' : List Value) (wd : Str) (Nd Wd : List Dat) (ps : List (Dat × Dat × Dat)) : Prop :=
  DatIn tl r (.tuple [.str wd, .list (countFrom Nd.length ps.length)]) ∧ DatAll (tl ++ pool) nvs' (Nd ++ ps.map fun p => goalDat p.1) ∧ DatAll (tl ++ pool) wvs' (Wd ++ waits Nd.length ps) ∧
    (∀ p ∈ tl, @LT.lt Nat _ nl p.1 ∧ @LT.lt Nat _ wl p.1 ∧ ∀ q ∈ rest, q.1 < p.1)
section
variable {S : Nat} {root : Tr} {pl hd ed cn x dx nl wl : Addr} {rv : Value} {pls : List Nat} {q : Nat} {wd : Wd} {ks : List Tr} {Wk : List (Nat × Tr)} {TT : List Tr} {Nd : List Dat} {nvs wvs pvs kvs : List Value} {eo ho : Obj} {fe fh : Int → Option Value} {pool : List (Addr × Obj)} {Dw Dt Dn : Addr} {ve : Value}
variable {m₀ m' : Str → Option Value} {hh1 hh2 : Int} {t1 t2 tn tq : Tok} {nd ec e1 e2 e3 tk n : Nat} {g h : Heap} {L : Addr} {s s₃ : Shared} {r : Value}
theorem leaf_end {D1 D2 : Addr} {a b c : Tok} {n1 n2 : Nat} (K : Hid (Kp S root pl hd ed cn x dx nl wl rv pls q wd ks Wk TT Nd nvs wvs pvs kvs eo ho fe fh pool Dw Dt Dn ve)) (I : Inv S root pls ((q, Tr.mk pls.length wd ks) :: Wk) TT Nd) (hn : n = Tr.sizes (((q, Tr.mk pls.length wd ks) :: Wk).map Prod.snd)) (hw : (wd.str == PySem.Str.ofString "leaf") = true) (hpl : pvs.length = pls.length)
    (h1 : ∀ b ∈ [pl, hd, ed, cn, x, dx, nl, wl], @LT.lt Nat _ b D1 ∧ @LT.lt Nat _ b D2)
    (hm : ∀ y, y ≠ PySem.Str.ofString "place" → y ≠ PySem.Str.ofString "part" → y ≠ PySem.Str.ofString "here" → y ≠ PySem.Str.ofString "there" → y ≠ PySem.Str.ofString "number" → y ≠ PySem.Str.ofString "word" → y ≠ PySem.Str.ofString "held" → y ≠ PySem.Str.ofString "parts" → y ≠ PySem.Str.ofString "one" → m' y = m₀ y)
    (hs : s₃ = { s with heap := h, toks := tk }) (F : Fr g L h m')
    (N : News g L h ((D2, ({ cls := .type "tuple", data := .seq (List.toArray [.str (PySem.Str.ofString "goal") a, .ref D1]) n2 } : Obj)) :: (D1, ({ cls := .type "tuple", data := .seq (List.toArray [.str (PySem.Str.ofString "a") b, .int (50 + (pvs.length : Int)) c]) n1 } : Obj)) :: (pl, listOf (pvs ++ [Value.int (q : Int) tq]).toArray e3) :: (hd, ho) :: (ed, eo) :: (cn, listOf (List.toArray [Value.int (S : Int) tn]) ec) :: (x, instObj 57 dx) :: (dx, dictOf [⟨hh1, .str (PySem.Str.ofString "nodes") t1, .ref nl⟩, ⟨hh2, .str (PySem.Str.ofString "waiting") t2, .ref wl⟩] nd) :: (nl, listOf (nvs.set q (.ref D2)).toArray e1) :: (wl, listOf wvs.toArray e2) :: pool)) :
    ∃ h' tk m₂ news₂ n', s₃ = { s with heap := h', toks := tk } ∧ Fr g L h' m₂ ∧ News g L h' news₂ ∧ n' < n ∧ LJ S root m₀ pl hd ed cn x dx nl wl hh1 hh2 t1 t2 tn nd ec rv n' m₂ news₂ := by
  obtain rfl := Wd.leaf_of hw
  subst hn
  have htok := I.tr_ok (.head _)
  have hks0 : ks = [] := by
    simp only [Tr.Ok, Wd.arity, beq_iff_eq] at htok
    exact List.length_eq_zero_iff.mp htok.1
  refine leaf_next (D1 := (D1, _)) (D2 := (D2, _)) I rfl hks0 (Kp.hww K) (Kp.hnv K) (Kp.hpv K) (Kp.hde K) (Kp.hdh K) (Kp.hE K) (Kp.hH K) (Kp.hoff K) (Kp.hrv K) ?_ h1 hm hs F N
  rw [hpl]
  exact .tuple (.head _) (.cons (.str _ _) (.cons (.tuple (.tail _ (.head _)) (.cons (.str _ _) (.cons (.int _ _) .nil))) .nil))
theorem node_end {pt : Addr} {tl tl2 : List (Addr × Obj)} {e4 : Nat} {fe' fh' : Int → Option Value} {qvs nvs' wvs' : List Value} {eo' ho' : Obj} (K : Hid (Kp S root pl hd ed cn x dx nl wl rv pls q wd ks Wk TT Nd nvs wvs pvs kvs eo ho fe fh pool Dw Dt Dn ve)) (I : Inv S root pls ((q, Tr.mk pls.length wd ks) :: Wk) TT Nd) (hn : n = Tr.sizes (((q, Tr.mk pls.length wd ks) :: Wk).map Prod.snd)) (hw : (wd.str == PySem.Str.ofString "leaf") = false)
    (KD : Hid (DictI eo' fe' (TT.length + ks.length) ∧ DictI ho' fh' (TT.length + ks.length))) (K8 : Hid (FK pool fe fh pls.length ks ks.length pt qvs fe' fh' tl))
    (hpt : Hid (∀ b ∈ [pl, hd, ed, cn, x, dx, nl, wl], @LT.lt Nat _ b pt)) (hxn : @LT.lt Nat _ x nl) (hdn : @LT.lt Nat _ dx nl)
    (O : Hid (HoldOut nl wl ((pt, listOf qvs.toArray e4) :: (pl, listOf (pvs ++ [Value.int (q : Int) tq]).toArray e3) :: (hd, ho') :: (ed, eo') :: (cn, listOf (List.toArray [Value.int (S : Int) tn]) ec) :: (tl ++ pool)) (tl ++ pool) tl2 r nvs' wvs' wd.str Nd (Wk.map wkDat).reverse (ks.map Tr.part)))
    (hm : ∀ y, y ≠ PySem.Str.ofString "place" → y ≠ PySem.Str.ofString "part" → y ≠ PySem.Str.ofString "here" → y ≠ PySem.Str.ofString "there" → y ≠ PySem.Str.ofString "number" → y ≠ PySem.Str.ofString "word" → y ≠ PySem.Str.ofString "held" → y ≠ PySem.Str.ofString "parts" → y ≠ PySem.Str.ofString "one" → m' y = m₀ y)
    (hs : s₃ = { s with heap := h, toks := tk }) (F : Fr g L h m')
    (N : News g L h ((x, instObj 57 dx) :: (dx, dictOf [⟨hh1, .str (PySem.Str.ofString "nodes") t1, .ref nl⟩, ⟨hh2, .str (PySem.Str.ofString "waiting") t2, .ref wl⟩] nd) :: (nl, listOf (nvs'.set q r).toArray e1) :: (wl, listOf wvs'.toArray e2) :: (tl2 ++ (pt, listOf qvs.toArray e4) :: (pl, listOf (pvs ++ [Value.int (q : Int) tq]).toArray e3) :: (hd, ho') :: (ed, eo') :: (cn, listOf (List.toArray [Value.int (S : Int) tn]) ec) :: (tl ++ pool)))) :
    ∃ h' tk m₂ news₂ n', s₃ = { s with heap := h', toks := tk } ∧ Fr g L h' m₂ ∧ News g L h' news₂ ∧ n' < n ∧ LJ S root m₀ pl hd ed cn x dx nl wl hh1 hh2 t1 t2 tn nd ec rv n' m₂ news₂ := by
  subst hn
  obtain ⟨⟨hq9, hev9, hhv9, hsame9, hab9⟩⟩ := K8
  rw [List.take_length] at hev9 hhv9 hsame9
  obtain ⟨⟨hr, hnv, hwv, h2⟩⟩ := O
  exact node_next (t := Tr.mk pls.length wd ks) I (Wd.not_leaf hw) (Kp.hpv K) (Kp.hE K) (Kp.hH K) (Kp.hoff K) (Kp.hrv K) KD.out.1 KD.out.2 hev9 hhv9 hsame9 hab9 hpt.out hxn hdn hnv hwv hr h2 hm hs F N
theorem fj_end {m₁ : Str → Option Value} {pt : Addr} {po co : Obj} {own tl R : List (Addr × Obj)} {T0 num i e4 e4' : Nat} {k : Tr} {qvs : List Value} {fe' fh' : Int → Option Value} {eo0 ho0 : Obj} {D D1 D2 : Addr} {tk1 a1 b1 a2 b2 : Tok} {n1 n2 : Nat} {nx : List (Addr × Obj)}
    (hk : ks[i]? = some k) (K8 : Hid (FK pool fe fh num ks i pt qvs fe' fh' tl)) (K9 : Hid (FR own tl pool R D k)) (hk0 : 0 < k.num) (hnx : nx = (pt, listOf (List.toArray qvs) e4) :: (pl, po) :: (hd, ho0) :: (ed, eo0) :: (cn, co) :: treeIs x dx nl wl hh1 hh2 t1 t2 nd nvs wvs e1 e2 (tl ++ pool))
    (hl1 : AllLt D1 R) (hl2 : AllLt D2 R) (hp1 : @LT.lt Nat _ pt D1) (hp2 : @LT.lt Nat _ pt D2)
    (hde : DictI eo (fun z => if z = (k.num : Int) then some (.ref D1) else fe' z) (T0 + i + 1)) (hdh : DictI ho (fun z => if z = (k.num : Int) then some (.int (num : Int) tk1) else fh' z) (T0 + i + 1))
    (hm : ∀ y, y ≠ PySem.Str.ofString "one" → m' y = m₁ y)
    (hs : s₃ = { s with heap := h, toks := tk }) (F : Fr g L h m')
    (N : News g L h ((D2, ({ cls := .type "tuple", data := .seq (List.toArray [.ref D, .int (10 * (k.num : Int)) a1, .int (10 * (k.num : Int) + 1) b1]) n1 } : Obj)) :: (D1, ({ cls := .type "tuple", data := .seq (List.toArray [.int (10 * (k.num : Int)) a2, .int (10 * (k.num : Int) + 1) b2]) n2 } : Obj)) :: (pt, listOf (qvs ++ [Value.ref D2]).toArray e4') :: (pl, po) :: (hd, ho) :: (ed, eo) :: (cn, co) :: (x, instObj 57 dx) :: (dx, dictOf [⟨hh1, .str (PySem.Str.ofString "nodes") t1, .ref nl⟩, ⟨hh2, .str (PySem.Str.ofString "waiting") t2, .ref wl⟩] nd) :: (nl, listOf nvs.toArray e1) :: (wl, listOf wvs.toArray e2) :: R)) :
    ForEnd g L [pt, hd, ed] own nx (FJ m₁ pt pl hd ed cn x dx nl wl po co hh1 hh2 t1 t2 nd nvs wvs e1 e2 pool fe fh T0 num ks (i + 1)) s s₃ := by
  subst hnx
  obtain ⟨⟨hq9, hev9, hhv9, hsame9, hab9⟩⟩ := K8
  obtain ⟨⟨hR, hvk⟩⟩ := K9
  refine fj_next (D1 := (D1, _)) (D2 := (D2, _)) hk hq9 hev9 hhv9 hsame9 hab9 hR hl1 hl2 hp1 hp2 ?_ ?_ hde hdh hm hs F N
  · rw [hereOf_pos hk0, thereOf_pos hk0]
    exact .tuple (.head _) (.cons (.int _ _) (.cons (.int _ _) .nil))
  · show DatIn _ _ (.tuple [k.dat, .int (hereOf k.num), .int (thereOf k.num)])
    rw [hereOf_pos hk0, thereOf_pos hk0]
    exact .tuple (.head _) (.cons (DatIn.mono (fun p hp => .tail _ (.tail _ (List.mem_append_right _ hp))) hvk) (.cons (.int _ _) (.cons (.int _ _) .nil)))
end
section
variable {prog : Program} {w : World} {A : Around} {E : Value → Shared → Prop} {s : Shared} {h₀ h : Heap} {L D : Addr} {m : Str → Option Value} {news news' n₁ : List (Addr × Obj)} {us : List Value} {n k : Nat} {t : Tok} {v : Value}
theorem my_setN {Q : Unit → Shared → Prop} (F : Fr h₀ L s.heap m) (N : News h₀ L s.heap news) (U : Upd D (listOf us.toArray n) (listOf (us.set k v).toArray n) news news') (hfit : (k : Int) < 2 ^ 62) (hlt : k < us.length)
    (h : ∀ h', Fr h₀ L h' m → News h₀ L h' news' → Q () { s with heap := h' }) : wpAny (model prog w) A (setItem (.ref D) (.int (k : Int) t) v) Q E s :=
  my_set (us := us) (k := (k : Int)) F N (by rw [Int.toNat_natCast]; exact U) (Int.natCast_nonneg _) hfit (by rw [Int.toNat_natCast]; exact hlt) h
theorem my_subN {value slice : PySem.Expr} {Q : Value → Shared → Prop} (N : News h₀ L s.heap news) (hm : (D, listOf us.toArray n) ∈ news) (hfit : (k : Int) < 2 ^ 62) (hv : us[k]? = some v) (h : Q v s)
    (hs : subscripted slice false (.ref D) (.int (k : Int) t) = operate [.ref D, .int (k : Int) t] (getItem (.ref D) (.int (k : Int) t)) := by with_unfolding_all rfl) :
    wpAny (model prog w) A (subscriptTail value slice (.ref D) (.int (k : Int) t)) Q E s :=
  my_sub N hm (Int.natCast_nonneg _) hfit (by rw [Int.toNat_natCast]; exact hv) h hs
theorem my_ne_some (k : Nat) {l l' : Addr} {ys : List Value} {ds : List Dat} {d : Dat} {c c' : Nat} {Q : Value → Shared → Prop} (N : News h₀ L s.heap news) (hl : (l, listOf ys.toArray c) ∈ news) (hl' : (l', listOf ([] : List Value).toArray c') ∈ news) (Da : DatAll n₁ ys (ds ++ [d])) (sa : ∀ p ∈ n₁, p ∈ news)
    (ha : ∀ x ∈ ds ++ [d], kqdOk k x = true) (hk : k ≤ 50) (hu : A.units + 64 < cLine) (h : Q (.bool true) s) : wpAny (model prog w) A (compareOp .NotEq (.ref l) (.ref l')) Q E s := by
  refine my_ne_nil k N hl hl' Da sa ha hk hu ?_
  have e : (ds ++ [d]).isEmpty = false := by simp
  rw [e]
  exact h
end
end
section
/-- what the loop of goal knows -/
def GK (gl nl wl : Addr) (rest own tl R : List (Addr × Obj)) (Ms : List Dat) (i : Nat) (gvs : List Value) (mt : Dat) : Prop :=
  (i < Ms.length ∧ gvs.length = Ms.length) ∧ DatAll (tl ++ rest) (gvs.drop (Ms.length - i)) (Ms.drop (Ms.length - i)) ∧ (∀ p ∈ tl, @LT.lt Nat _ gl p.1 ∧ @LT.lt Nat _ nl p.1 ∧ @LT.lt Nat _ wl p.1 ∧ ∀ q ∈ rest, q.1 < p.1) ∧ R = tl ++ rest ++ own ∧ Ms[Ms.length - 1 - i]? = some mt ∧ ∀ p ∈ R, p.1 ≠ gl
abbrev goalMap (u m₀ : Str → Option Value) : Str → Option Value := fun y => if y = PySem.Str.ofString "place" then u y else if y = PySem.Str.ofString "word" then u y else if y = PySem.Str.ofString "held" then u y else if y = PySem.Str.ofString "inner" then u y else if y = PySem.Str.ofString "done" then u y else m₀ y
section
variable {m₀ m' : Str → Option Value} {gl : Addr} {cc : Addr × Obj} {x dx nl wl : Addr} {hh1 hh2 : Int} {t1 t2 : Tok} {nd : Nat} {nvs wvs gvs : List Value} {e1 e2 : Nat} {rest tl own pre R nx : List (Addr × Obj)} {Ms Nd : List Dat} {i j tk' eg : Nat} {g h' : Heap} {L : Addr} {s₁ s₂ : Shared} {v : Value} {mt : Dat}
theorem goal_end {eg0 : Nat} {W : Flow → Shared → Prop} (hW : Hid (∀ s₂, ForEnd g L [gl] own nx (GJ m₀ gl cc x dx nl wl hh1 hh2 t1 t2 nd nvs wvs e1 e2 rest Ms (i + 1)) s₁ s₂ → W .next s₂ ∧ W .cont s₂))
    (hnx : nx = (gl, listOf gvs.toArray eg0) :: cc :: treeIs x dx nl wl hh1 hh2 t1 t2 nd nvs wvs e1 e2 (tl ++ rest)) (K : Hid (GK gl nl wl rest own tl R Ms i gvs mt)) (hj : j = Ms.length - 1 - i)
    (hv : DatIn (pre ++ (tl ++ rest)) v mt) (hpre : ∀ p ∈ pre, @LT.lt Nat _ gl p.1 ∧ @LT.lt Nat _ nl p.1 ∧ @LT.lt Nat _ wl p.1 ∧ ∀ q ∈ R, q.1 < p.1)
    (hm : ∀ y, y ≠ PySem.Str.ofString "place" → y ≠ PySem.Str.ofString "word" → y ≠ PySem.Str.ofString "held" → y ≠ PySem.Str.ofString "inner" → y ≠ PySem.Str.ofString "done" → m' y = m₀ y)
    (hs : s₂ = { s₁ with heap := h', toks := tk' }) (F : Fr g L h' m') (N : News g L h' ((gl, listOf (gvs.set j v).toArray eg) :: cc :: (x, instObj 57 dx) :: (dx, dictOf [⟨hh1, .str (PySem.Str.ofString "nodes") t1, .ref nl⟩, ⟨hh2, .str (PySem.Str.ofString "waiting") t2, .ref wl⟩] nd) :: (nl, listOf nvs.toArray e1) :: (wl, listOf wvs.toArray e2) :: (R ++ pre))) : W .next s₂ ∧ W .cont s₂ := by
  subst hnx hj
  obtain ⟨⟨⟨a1, a2⟩, a3, a4, a5, a6, _⟩⟩ := K
  exact hW.out _ (goal_next a1 a2 a3 a4 a5 a6 (by rw [List.append_assoc]; exact hv) hpre hm hs F (newsRot' N))
theorem goal_for {prog : Program} {w : World} {A : Around} {E : Value → Shared → Prop} {s : Shared} {env : Env} {h₀ : Heap} {body : List PySem.Stmt} {Q : Flow → Shared → Prop} {r : Addr} {ta tb tc : Tok} {gv0 : Array Value}
    (hr : IsRange s.heap r ((Ms.length : Int) - 1) (-1) (-1) ta tb tc) (hh : A.handled = none) (hb : Ms.length ≤ 1000) (F : Fr h₀ env.locals s.heap m₀)
    (N : News h₀ env.locals s.heap ((gl, listOf gv0 eg) :: cc :: (x, instObj 57 dx) :: (dx, dictOf [⟨hh1, .str (PySem.Str.ofString "nodes") t1, .ref nl⟩, ⟨hh2, .str (PySem.Str.ofString "waiting") t2, .ref wl⟩] nd) :: (nl, listOf nvs.toArray e1) :: (wl, listOf wvs.toArray e2) :: rest)) (hg0 : gv0 = (List.replicate Ms.length Value.none).toArray)
    (hn : DatAll rest nvs Nd) (hMl : Ms.length = Nd.length) (hM : ∀ i nd mt, Nd[i]? = some nd → Ms[i]? = some mt → NodeOk Ms i nd mt) (hgl : ∀ p ∈ rest, p.1 ≠ gl)
    (leaf : ∀ (i j tk' eg : Nat) (u : Str → Option Value) (gvs : List Value) (own tl R nx : List (Addr × Obj)) (h : Heap) (tk : Nat) (sv : Shared) (W : Flow → Shared → Prop) (D : Addr) (v : Value) (ts : Tok) (nt : Nat) (mt : Dat), (j : Int) < 2 ^ 62 → j < gvs.length →
      nx = (gl, listOf (List.toArray gvs) eg) :: cc :: treeIs x dx nl wl hh1 hh2 t1 t2 nd nvs wvs e1 e2 (tl ++ rest) → j = Ms.length - 1 - i → Hid (GK gl nl wl rest own tl R Ms i gvs mt) → nvs[j]? = some (.ref D) → Hid (DatIn rest v mt) → (∀ p ∈ R, p.1 ≠ gl) →
      Fr h₀ env.locals h (fun y => if y = PySem.Str.ofString "place" then some (.int (j : Int) tk') else goalMap u m₀ y) →
      News h₀ env.locals h ((D, ({ cls := .type "tuple", data := .seq (List.toArray [.str (PySem.Str.ofString "goal") ts, v]) nt } : Obj)) :: (gl, listOf (List.toArray gvs) eg) :: cc :: (x, instObj 57 dx) :: (dx, dictOf [⟨hh1, .str (PySem.Str.ofString "nodes") t1, .ref nl⟩, ⟨hh2, .str (PySem.Str.ofString "waiting") t2, .ref wl⟩] nd) :: (nl, listOf nvs.toArray e1) :: (wl, listOf wvs.toArray e2) :: R) →
      Hid (∀ s₂, ForEnd h₀ env.locals [gl] own nx (GJ m₀ gl cc x dx nl wl hh1 hh2 t1 t2 nd nvs wvs e1 e2 rest Ms (i + 1)) { sv with heap := h, toks := tk } s₂ → W .next s₂ ∧ W .cont s₂) →
      wpAny (model prog w) A (execs body env) W (fun _ _ => False) { sv with heap := h, toks := tk })
    (word : ∀ (i j tk' eg : Nat) (u : Str → Option Value) (gvs hvs : List Value) (own tl R nx : List (Addr × Obj)) (h : Heap) (tk : Nat) (sv : Shared) (W : Flow → Shared → Prop) (D Dl : Addr) (ts : Tok) (nt ntl : Nat) (wd : Wd) (n k : Nat), (j : Int) < 2 ^ 62 → j < gvs.length → gvs.length = Ms.length →
      nx = (gl, listOf (List.toArray gvs) eg) :: cc :: treeIs x dx nl wl hh1 hh2 t1 t2 nd nvs wvs e1 e2 (tl ++ rest) → j = Ms.length - 1 - i → Hid (GK gl nl wl rest own tl R Ms i gvs (Tr.mean 0 wd ((Ms.drop n).take k))) → nvs[j]? = some (.ref D) → (∀ p ∈ R, p.1 ≠ gl) → wd ≠ .leaf → wd.arity k = true → j < n → n + k ≤ Ms.length →
      (Dl, listOf (List.toArray hvs) ntl) ∈ R → Hid (DatAll rest hvs (countFrom n k)) → hvs.length = k →
      Fr h₀ env.locals h (fun y => if y = PySem.Str.ofString "place" then some (.int (j : Int) tk') else goalMap u m₀ y) →
      News h₀ env.locals h ((D, ({ cls := .type "tuple", data := .seq (List.toArray [.str wd.str ts, .ref Dl]) nt } : Obj)) :: (gl, listOf (List.toArray gvs) eg) :: cc :: (x, instObj 57 dx) :: (dx, dictOf [⟨hh1, .str (PySem.Str.ofString "nodes") t1, .ref nl⟩, ⟨hh2, .str (PySem.Str.ofString "waiting") t2, .ref wl⟩] nd) :: (nl, listOf nvs.toArray e1) :: (wl, listOf wvs.toArray e2) :: R) →
      Hid (∀ s₂, ForEnd h₀ env.locals [gl] own nx (GJ m₀ gl cc x dx nl wl hh1 hh2 t1 t2 nd nvs wvs e1 e2 rest Ms (i + 1)) { sv with heap := h, toks := tk } s₂ → W .next s₂ ∧ W .cont s₂) →
      wpAny (model prog w) A (execs body env) W (fun _ _ => False) { sv with heap := h, toks := tk })
    (done : ∀ (u : Str → Option Value) (gvs : List Value) (eg : Nat) (tl : List (Addr × Obj)) (h : Heap) (tk : Nat), Fr h₀ env.locals h (goalMap u m₀) →
      News h₀ env.locals h ((gl, listOf (List.toArray gvs) eg) :: cc :: (x, instObj 57 dx) :: (dx, dictOf [⟨hh1, .str (PySem.Str.ofString "nodes") t1, .ref nl⟩, ⟨hh2, .str (PySem.Str.ofString "waiting") t2, .ref wl⟩] nd) :: (nl, listOf nvs.toArray e1) :: (wl, listOf wvs.toArray e2) :: (tl ++ rest)) →
      Hid (gvs.length = Ms.length ∧ DatAll (tl ++ rest) gvs Ms ∧ (∀ p ∈ tl, @LT.lt Nat _ gl p.1 ∧ @LT.lt Nat _ nl p.1 ∧ @LT.lt Nat _ wl p.1 ∧ ∀ q ∈ rest, q.1 < p.1)) → Q .next { s with heap := h, toks := tk }) :
    wpAny (model prog w) A (pyIter (.ref r)) (fun it s₂ => LoopAtV prog w A h₀ env (PySem.Str.ofString "place") body Q E it s₂) E s := by
  subst hg0
  refine for_range [gl] (GJ m₀ gl cc x dx nl wl hh1 hh2 t1 t2 nd nvs wvs e1 e2 rest Ms) hr (range_down_small (by omega)) range_down hh ?_ F N ⟨m₀, _, _, [], norm5 (fun y _ _ _ _ _ => rfl), rfl, by simp, ?_, fun _ hp => nomatch hp⟩ ?_ ?_
  · intro b hb
    obtain rfl := List.mem_singleton.mp hb; exact ⟨_, .head _⟩
  · have e1 : (List.replicate Ms.length Value.none).drop (Ms.length - 0) = [] := by simp
    have e2 : Ms.drop (Ms.length - 0) = [] := by simp
    rw [e1, e2]
    exact .nil
  · intro i tk' m nx h tk own hi hJ F8 N8 ho
    obtain ⟨u, gvs, eg, tl, rfl, rfl, hgl2, hgv, hab⟩ := hJ
    have N9 := newsMove N8
    simp only [List.cons_append, treeIs] at N9
    have hRg : ∀ p ∈ tl ++ rest ++ own, p.1 ≠ gl := by
      intro p hp
      rcases List.mem_append.mp hp with hp | hp
      · rcases List.mem_append.mp hp with hp | hp
        · exact Nat.ne_of_gt (hab p hp).1
        · exact hgl p hp
      · exact fun e => ho p hp (e ▸ .head _)
    have ej : ((Ms.length : Int) - 1 + (i : Int) * (-1)) = ((Ms.length - 1 - i : Nat) : Int) := by omega
    rw [ej] at F8
    obtain ⟨nd9, hnd9⟩ : ∃ nd9, Nd[Ms.length - 1 - i]? = some nd9 := ⟨_, List.getElem?_eq_getElem (by omega)⟩
    obtain ⟨mt9, hmt9⟩ : ∃ mt9, Ms[Ms.length - 1 - i]? = some mt9 := ⟨_, List.getElem?_eq_getElem (by omega)⟩
    obtain ⟨v9, hv9, hd9⟩ := datAll_at' hn hnd9
    have hM9 := hM _ _ _ hnd9 hmt9
    refine toFalse ?_
    rcases hM9 with rfl | ⟨wd, n, k, hw, har, hjn, hle, rfl, hmt⟩
    · cases hd9 with
      | tuple hm1 hr1 =>
      cases hr1 with
      | cons h1 hr1 =>
      cases h1
      cases hr1 with
      | cons h1 hr1 =>
      cases hr1
      exact leaf i (Ms.length - 1 - i) tk' eg u gvs own tl (tl ++ rest ++ own) _ h tk s _ _ _ _ _ mt9 (by omega) (by omega) rfl rfl ⟨⟨⟨hi, hgl2⟩, hgv, hab, rfl, hmt9, hRg⟩⟩ hv9 ⟨h1⟩ hRg F8 (News.cons' N9 (List.mem_append_left own (List.mem_append_right tl hm1))) ⟨fun _ h => ⟨h, h⟩⟩
    · cases hd9 with
      | tuple hm1 hr1 =>
      cases hr1 with
      | cons h1 hr1 =>
      cases h1
      cases hr1 with
      | cons h1 hr1 =>
      cases hr1
      cases h1 with
      | list hm2 hc2 =>
      subst hmt
      exact word i (Ms.length - 1 - i) tk' eg u gvs _ own tl (tl ++ rest ++ own) _ h tk s _ _ _ _ _ _ wd n k (by omega) (by omega) hgl2 rfl rfl ⟨⟨⟨hi, hgl2⟩, hgv, hab, rfl, hmt9, hRg⟩⟩ hv9 hRg hw har hjn hle (List.mem_append_left own (List.mem_append_right tl hm2)) ⟨hc2⟩ (by rw [hc2.length, countFrom_length]) F8 (News.cons' N9 (List.mem_append_left own (List.mem_append_right tl hm1))) ⟨fun _ h => ⟨h, h⟩⟩
  · intro m nx h tk hJ F8 N8
    obtain ⟨u, gvs, eg, tl, rfl, rfl, hgl2, hgv, hab⟩ := hJ
    rw [Nat.sub_self, List.drop_zero, List.drop_zero] at hgv
    exact done u gvs eg tl h tk F8 N8 ⟨⟨hgl2, hgv, hab⟩⟩
end
section
variable {C : Prop} {gl x dx nl wl : Addr} {o o' oc o1 o2 o3 o4 : Obj} {cc : Addr × Obj} {rest own own2 tl R nx nx0 : List (Addr × Obj)} {Ms : List Dat} {i j n k t : Nat} {gvs hvs ys : List Value} {mt : Dat} {v : Value} {g h h' : Heap} {L : Addr} {mC : Str → Option Value} {xn : Str}
theorem upd_gl (U : Hid (@Ne Nat cc.1 gl ∧ @Ne Nat x gl ∧ @Ne Nat dx gl ∧ @Ne Nat nl gl ∧ @Ne Nat wl gl)) (hR : ∀ p ∈ R, p.1 ≠ gl) : Upd gl o o' ((gl, o) :: cc :: (x, o1) :: (dx, o2) :: (nl, o3) :: (wl, o4) :: R) ((gl, o') :: cc :: (x, o1) :: (dx, o2) :: (nl, o3) :: (wl, o4) :: R) :=
  .head (List.forall_mem_cons.mpr ⟨U.out.1, List.forall_mem_cons.mpr ⟨U.out.2.1, List.forall_mem_cons.mpr ⟨U.out.2.2.1, List.forall_mem_cons.mpr ⟨U.out.2.2.2.1, List.forall_mem_cons.mpr ⟨U.out.2.2.2.2, hR⟩⟩⟩⟩⟩)
/-- a turn of the comprehension -/
def CK (pool : List (Addr × Obj)) (Ms : List Dat) (n k t : Nat) (ys : List Value) (y : Value) (d : Dat) : Prop := DatAll pool ys (((Ms.drop n).take k).take t) ∧ t < k ∧ Ms[n + t]? = some d ∧ DatIn pool y d
theorem cj_elim (hJ : CJ (tl ++ rest) Ms n k nx0 t ys nx) (K : Hid (GK gl nl wl rest own tl R Ms i gvs mt)) (K2 : Hid (DatAll rest hvs (countFrom n k))) (hvl : hvs.length = k) (ht : hvs[t]? = some v) (hj : j = Ms.length - 1 - i) (hjn : j < n) (hle : n + k ≤ Ms.length) (N : News g L h (own2 ++ nx)) (hm : mC xn = some v)
    (kk : ∀ (tok : Tok) (y : Value) (d : Dat), mC xn = some (.int ((n + t : Nat) : Int) tok) → gvs[n + t]? = some y → nx = nx0 → Hid (CK (tl ++ rest) Ms n k t ys y d) → News g L h (own2 ++ nx0) → C) : C := by
  obtain ⟨rfl, hD⟩ := hJ
  obtain ⟨⟨⟨hi, hgl⟩, hgv, hab, hR, hmt, _⟩⟩ := K
  have htk : t < k := by
    have := (List.getElem?_eq_some_iff.mp ht).1
    omega
  obtain ⟨c9, hc9, hd8⟩ := datAll_at' K2.out (countFrom_get n k t htk)
  rw [ht] at hc9
  cases hc9
  cases hd8
  obtain ⟨y9, hy9, hdy⟩ := drop_at hgv (q := n + t) (by omega) (List.getElem?_eq_getElem (by omega))
  exact kk _ y9 _ hm hy9 rfl ⟨⟨hD, htk, List.getElem?_eq_getElem (by omega), hdy⟩⟩ N
theorem cj_end {m : Str → Option Value} {s₁ s₂ : Shared} {tk' : Nat} {y : Value} {d : Dat} (K : Hid (CK (tl ++ rest) Ms n k t ys y d)) (hnx : nx = nx0) (hs : s₂ = { s₁ with heap := h', toks := tk' }) (F : Fr g L h' m) (N : News g L h' (own2 ++ nx0)) :
    EltEnd g L m [] own2 nx (CJ (tl ++ rest) Ms n k nx0 (t + 1) (ys ++ [y])) s₁ s₂ := by
  subst hnx
  exact cj_next K.out.1 K.out.2.1 K.out.2.2.1 K.out.2.2.2 hs F N
theorem cj_done {D : Addr} {e : Nat} (hJ : CJ (tl ++ rest) Ms n k nx0 hvs.length ys nx) (hvl : hvs.length = k) (N : News g L h ((D, listOf ys.toArray e) :: nx)) (hlt : ∀ p ∈ nx0, p.1 < D)
    (kk : News g L h ((D, listOf ys.toArray e) :: nx0) → Hid (DatAll (tl ++ rest) ys ((Ms.drop n).take k)) → Hid (∀ p ∈ nx0, p.1 < D) → C) : C := by
  obtain ⟨rfl, hD⟩ := hJ
  rw [hvl, List.take_of_length_le (by rw [List.length_take]; exact Nat.min_le_left _ _)] at hD
  exact kk N ⟨hD⟩ ⟨hlt⟩
end
theorem wd_not_goal (w : Wd) : (w.str == PySem.Str.ofString "goal") = false := by cases w <;> decide +kernel
section
variable {C : Prop} {P : List Value → Prop} {pool : List (Addr × Obj)} {ys : List Value} {Ms : List Dat} {n : Nat}
theorem args1 (h : DatAll pool ys (List.take 1 (List.drop n Ms))) (hle : n + 1 ≤ Ms.length) (hN : P ys) (kk : ∀ a d, List.take 1 (List.drop n Ms) = [d] → P [a] → Hid (DatIn pool a d) → C) : C := by
  obtain ⟨d1, hds⟩ := take_n1 hle
  rw [hds] at h
  cases h with
  | cons b1 h =>
  cases h
  exact kk _ _ hds hN ⟨b1⟩
theorem args2 (h : DatAll pool ys (List.take 2 (List.drop n Ms))) (hle : n + 2 ≤ Ms.length) (hN : P ys) (kk : ∀ a1 a2 d1 d2, List.take 2 (List.drop n Ms) = [d1, d2] → P [a1, a2] → Hid (DatIn pool a1 d1) → Hid (DatIn pool a2 d2) → C) : C := by
  obtain ⟨d1, d2, hds⟩ := take_n2 hle
  rw [hds] at h
  cases h with
  | cons b1 h =>
  cases h with
  | cons b2 h =>
  cases h
  exact kk _ _ _ _ hds hN ⟨b1⟩ ⟨b2⟩
theorem args3 (h : DatAll pool ys (List.take 3 (List.drop n Ms))) (hle : n + 3 ≤ Ms.length) (hN : P ys) (kk : ∀ a1 a2 a3 d1 d2 d3, List.take 3 (List.drop n Ms) = [d1, d2, d3] → P [a1, a2, a3] → Hid (DatIn pool a1 d1) → Hid (DatIn pool a2 d2) → Hid (DatIn pool a3 d3) → C) : C := by
  obtain ⟨d1, d2, d3, hds⟩ := take_n3 hle
  rw [hds] at h
  cases h with
  | cons b1 h =>
  cases h with
  | cons b2 h =>
  cases h with
  | cons b3 h =>
  cases h
  exact kk _ _ _ _ _ _ hds hN ⟨b1⟩ ⟨b2⟩ ⟨b3⟩
end
end
section
set_option maxRecDepth 100000 in
set_option maxHeartbeats 8000000 in
theorem goal_ok (w : World) (mean : ExcName → Option Value) (mg mb : Str → Option Value) 
  (dp un : Nat) (gd : Option (List Code)) (cn : Str) (cs : Scope) (a : Addr) (ccd : Value) (cl : List (Str × Addr)) (outer : List Env) (A₀ : Around) (base h₀ : Heap) (L : Addr) (m : Str → Option Value) (s : Shared)
  (x dx nl wl : Addr) (hh1 hh2 : Int) (t1 t2 : Tok) (nd e1 e2 : Nat) (nvs wvs : List Value) (rest : List (Addr × Obj)) (Nd Ms : List Dat) (Q E : Value → Shared → Prop)
  (B : Below A₀ base outer h₀) (F : Fr h₀ L s.heap m) (X : (hd.heap_39 w.params).In h₀) (N : News h₀ L s.heap (treeIs x dx nl wl hh1 hh2 t1 t2 nd nvs wvs e1 e2 rest))
  (T : Top hd.view_39 (looseW hd.view_39 []) mean mg mb h₀) (hk : cs.kind = .function) 
  (hn : DatAll rest nvs Nd) (hMl : Ms.length = Nd.length) (hM : ∀ i nd mt, Nd[i]? = some nd → Ms[i]? = some mt → NodeOk Ms i nd mt) (hN0 : 0 < Nd.length) (hNl : Nd.length ≤ 250)
  (hd : dp ≤ 350) (hu : un ≤ 500)
  (ret : ∀ r tl h' tk' mt, Ms[0]? = some mt → DatIn (tl ++ rest) r mt → (∀ p ∈ tl, @LT.lt Nat _ nl p.1 ∧ @LT.lt Nat _ wl p.1 ∧ ∀ q ∈ rest, q.1 < p.1) → Fr h₀ L h' m → News h₀ L h' (treeIs x dx nl wl hh1 hh2 t1 t2 nd nvs wvs e1 e2 (tl ++ rest)) → Q r { s with heap := h', toks := tk' }) :
   wpAny (model PySem.Challenge.rw_sa0140_01.row.prog w) (ktrTop dp un gd cn cs L a ccd cl outer) (call (.ref 54) [.ref x]) Q E s := by
  dsimp only [treeIs] at N
  revert X
  w_top off
  k_with_none
  k_with "units_room" => (((have _ := cLine_is); simp only [units_in1, units_deeper, Around.mark_units, units_caller]; (try dsimp only [ktrTop]); omega))
  k_with "k_all" => (assumption)
  k_with "kpa_ne" => (exact pos_of_ne (by assumption) (by assumption))
  k_with "call builtin:list.reverse" => ((k_here; k_dflt (refine' my_reverse ?zF ?zN ?zU ?zz ?_; (case zF => k_asm); (case zN => k_asm); (case zU => k_upd); (case zz => ((simp only [sizeLine_eq, List.length_append, List.length_cons, List.length_nil]); first | omega | ((simp only [rangeKs_length] at *); omega)))); intro _ _ _; (try k_sweep)))
  k_with "call builtin:list.append" => ((k_here; (with_reducible show wpAny _ _ (call (Value.builtin _) [Value.ref _, _]) _ _ _); k_dflt (refine' my_append ?zF ?zN ?zU ?zz ?_; (case zF => k_asm); (case zN => k_asm); (case zU => k_upd); (case zz => ((simp only [sizeLine_eq, List.length_append, List.length_cons, List.length_nil]); first | omega | ((simp only [rangeKs_length] at *); omega)))); intro _ _ _; (try k_sweep)))
  k_with "call builtin:len" => ((k_here; (with_reducible show wpAny _ _ (call (Value.builtin "len") [Value.ref _]) _ _ _); k_dflt (refine' my_len ?zN ?zm ?zz ?_; (case zN => k_asm); (case zm => k_mem); (case zz => ((try simp only [List.length_append, List.length_cons, List.length_nil]); omega))); (try simp only [List.length_append, List.length_cons, List.length_nil])))
  k_with "k_room" => (((try simp only [depth_under_make, depth_under_kw, depth_in1, depth_deeper, depth_caller, recursionLimit]); (try dsimp only [ktrTop]); omega))
  k_with "k_units" => (units_room)
  k_with "k_enter" => (first
    | (refine' code_def ?ze1 ?ze2 ?ze3 ?ze4 ?ze5 ?ze6 ?ze7 ?ze8 ?ze9 ?ze10 ?ze11 ?ze12 ?ze13 ?_ ?ze14 ?ze15 ?ze16 ?ze17; (case ze6 => exact rfl); (case ze7 => exact rfl); (case ze8 => first | exact rfl | assumption); (case ze1 => k_asm); (case ze2 => k_asm); (case ze3 => k_asm); (case ze4 => k_asm); (case ze5 => k_asm); (case ze9 => k_is); (case ze10 => k_is); (case ze11 => k_room); (case ze12 => exact BindsTo.of_eq rfl); (case ze17 => decide); (case ze13 => exact locs rfl); (case ze14 => exact rfl); (case ze15 => exact rfl); (case ze16 => exact rfl); k_whole; intro _ _ _ _ _ _ _ _ _; (try dsimp only); (try k_fold))
    | (refine' code_defC ?ze1 ?ze2 ?ze3 ?ze4 ?ze5 ?ze6 ?ze7 ?ze8 ?ze9 ?ze10 ?ze11 ?ze12 ?ze13 ?ze14 ?_ ?ze15 ?ze16 ?ze17; (case ze6 => exact rfl); (case ze7 => exact rfl); (case ze8 => first | exact rfl | assumption); (case ze1 => k_asm); (case ze2 => k_asm); (case ze3 => k_asm); (case ze4 => k_asm); (case ze5 => k_asm); (case ze9 => k_is); (case ze10 => k_is); (case ze11 => k_room); (case ze12 => exact BindsTo.of_eq rfl); (case ze13 => exact rfl); (case ze14 => decide +kernel); (case ze15 => exact rfl); (case ze16 => exact rfl); (case ze17 => exact rfl); k_whole; intro _ _ _ _ _ _ _ N'z Y'z _ _ _ l1z; (try k_lt l1z); k_cells Y'z; (try simp only [List.cons_append, List.nil_append] at N'z); (try dsimp only); (try k_fold)))
  k_with "exec Assign cons ListComp" => ((k_here; (refine' my_Assign_ListComp ?zk0 ?zk1 ?zk2 ?zk3 ?zk4 ?_); (case zk0 => with_unfolding_all rfl); (case zk1 => with_unfolding_all rfl); (case zk2 => with_unfolding_all rfl); (case zk3 => decide); (case zk4 => (intro _; with_unfolding_all rfl))))
  k_with "CompGo" => (refine stopHere ?_)
  k_with "call ref" => ((k_here; (with_reducible show wpAny _ _ (call (Value.ref 28) _) _ _ _); refine stopHere ?_))
  k_with "binaryOp Mult ref int" => ((k_here; refine stopHere ?_))
  k_with "exec For Name Call cons nil" => ((k_here; (rename Fr _ _ _ _ => lF'z); (with_unfolding_all refine' For_invVF lF'z ?zk1 ?zk2 ?_; (case zk1 => exact rfl); (case zk2 => exact rfl); k_whole)))
  k_with "pyIter ref" => (((with_reducible show wpAny _ _ (pyIter (Value.ref _)) (fun it s₂ => LoopAtV _ _ _ _ _ _ _ _ _ it s₂) _ _); refine stopHere ?_))
  k_with "ForPost" => (refine stopHere ?_)
  k_with "k_mem" => (assumption)
  k_with "subscriptTail" => ((k_here; (with_reducible show wpAny _ _ (subscriptTail _ _ (Value.ref _) (Value.int _ _)) _ _ _); k_dflt (refine' my_sub ?zN ?zm ?za ?zb ?zc ?_; (case zN => k_asm); (case zm => k_mem); (case za => decide); (case zb => decide); (case zc => first | rfl | assumption); k_whole)))
  k_with "subscriptTail" => ((k_here; (with_reducible show wpAny _ _ (subscriptTail _ _ (Value.ref _) (Value.int (_ + _ * _) _)) _ _ _); refine stopHere ?_))
  k_with "subscriptTail" => ((k_here; (with_reducible show wpAny _ _ (subscriptTail _ _ (Value.ref _) (Value.int (Nat.cast _) _)) _ _ _); refine stopHere ?_))
  k_with "setItem" => ((k_here; refine stopHere ?_))
  k_with "call ref" => ((k_here; (with_reducible show wpAny _ _ (call (Value.ref 21) _) _ _ _); refine wpAny_call ?_; k_dflt k_enter))
  k_with "subscriptTail Name Constant ref int" => ((k_here; (with_reducible show wpAny _ _ (subscriptTail _ _ (Value.ref _) (Value.int _ _)) _ _ _); k_dflt (refine' my_sub ?zN ?zm ?za ?zb ?zc ?_; (case zN => k_asm); (case zm => k_mem); (case za => decide); (case zb => decide); (case zc => first | rfl | assumption); k_whole)))
  k_with "call builtin:list.pop" => ((k_here; (with_reducible show wpAny _ _ (call (Value.builtin "list.pop") [Value.ref _]) _ _ _); k_dflt (first | refine' pop3 ?zF ?zN ?zU ?_; (case zF => k_asm); (case zN => k_asm); (case zU => k_upd) | refine' pop2 ?zF ?zN ?zU ?_; (case zF => k_asm); (case zN => k_asm); (case zU => k_upd) | refine' pop1 ?zF ?zN ?zU ?_; (case zF => k_asm); (case zN => k_asm); (case zU => k_upd)); intro _ _ _; (try k_sweep)))
  k_with "exec While" => ((k_here; k_dflt (refine whl_start 100 ?_)))
  k_with "truthy ref" => ((k_here; (with_reducible show wpAny _ _ (truthy (Value.ref _)) _ _ _); k_dflt (first | refine' truth2 ?zN ?zm ?_; (case zN => k_asm); (case zm => k_mem) | refine' truth1 ?zN ?zm ?_; (case zN => k_asm); (case zm => k_mem) | refine' truth0 ?zN ?zm ?_; (case zN => k_asm); (case zm => k_mem))))
  k_fill
  intro X
  have hnl := hn.length
  refine wpAny_call ?_
  k_dflt k_enter
  refine toFalse ?_
  k_steps
  unfold Stop
  rename News _ _ _ _ => N5
  rename Fr _ _ _ _ => F5
  refine' KMa.mul F5 N5 (News.isList N5 (.head _)) ?lo ?hi ?z (ws := List.replicate Ms.length .none) ?e ?_
  case lo => omega
  case hi => omega
  case z => simp only [List.length_cons, List.length_nil]; omega
  case e => rw [hMl, ← hnl]; simp
  intro gl h5 F6 N6 l5
  replace l5 := allLt_of l5
  replace N6 := newsDrop2 N6
  rename x < _ ∧ dx < _ ∧ nl < _ ∧ wl < _ ∧ AllLt _ rest => l4
  have hrc := offc l4
  simp only [AllLt] at l5
  k_steps
  unfold Stop
  rename News _ _ _ _ => N7
  rename Fr _ _ _ _ => F7
  rename IsRange _ _ _ _ _ _ _ _ => R7
  rw [hnl, ← hMl] at R7
  have U := Hid.mk (And.intro (Nat.ne_of_lt l5.2.1) (And.intro (Nat.ne_of_lt l5.2.2.1) (And.intro (Nat.ne_of_lt l5.2.2.2.1) (And.intro (Nat.ne_of_lt l5.2.2.2.2.1) (Nat.ne_of_lt l5.2.2.2.2.2.1)))))
  have hgl := Hid.mk fun p hp => Nat.ne_of_lt (allLt_mem l5.2.2.2.2.2.2 p hp)
  have hret := Hid.mk ret
  have hM9 := Hid.mk hM
  clear ret hM
  refine' goal_for R7 rfl (by omega) F7 N7 rfl hn hMl hM9.out hgl.out ?leaf ?word ?done
  case leaf =>
    clear hret hn hM9 N7 F7
    intro i j tk' eg u gvs own tl R nx h tk sv W D v ts nt mt hj1 hj2 hnx hj K hv9 hv hRg F8 N8 hW
    k_steps
    unfold Stop
    refine my_subN N8 (.tail _ (.tail _ (.tail _ (.tail _ (.tail _ (.head _)))))) hj1 hv9 ?_
    k_steps
    unfold Stop
    rename News _ _ _ _ => N8
    rename Fr _ _ _ _ => F8
    refine' my_setN F8 (newsTail N8) (upd_gl U hRg) hj1 hj2 ?_
    intro h9 F9 N9
    k_steps
    exact (goal_end (pre := []) hW hnx K hj (DatIn.mono (fun p hp => List.mem_append_right _ (List.mem_append_right _ hp)) hv.out) (fun _ hp => nomatch hp) (fun y h1 h2 h3 h4 h5 => by simp only [if_neg h1, if_neg h2, if_neg h3, if_neg h4, if_neg h5]) rfl F9 (newsSub N9 fun p hp => by simpa using hp)).2
  case word =>
    clear hret hn hM9 N7 F7
    intro i j tk' eg u gvs hvs own tl R nx h tk sv W D Dl ts nt ntl wd n k hj1 hj2 hgv9 hnx hj K hv9 hRg hw har hjn hle hml K2 hvl F8 N8 hW
    have hwg := wd_not_goal wd
    k_steps
    unfold Stop
    refine my_subN N8 (.tail _ (.tail _ (.tail _ (.tail _ (.tail _ (.head _)))))) hj1 hv9 ?_
    k_steps
    all_goals first
      | exact absurd (hwg.symm.trans (by assumption)) Bool.false_ne_true
      | (with_reducible show Stop _)
    unfold Stop
    refine compGo_list [] (CJ (tl ++ rest) Ms n k _) (.tail _ (.tail _ (.tail _ (.tail _ (.tail _ (.tail _ (.tail _ hml))))))) (fun h => nomatch h) ?sz rfl (by decide) rfl rfl rfl rfl (by assumption) (by assumption) (fun b hb => nomatch hb) ⟨rfl, .nil⟩ ?cst ?cdn
    case sz => rw [sizeLine_eq]; omega
    case cst =>
      intro t v ys nx2 h2 tk2 C mC own2 E' ht hJ F8 N7 ho2 hC hm
      refine cj_elim hJ K K2 hvl ht hj hjn hle N7 hm ?_
      clear hJ N7 hm ho2 ht
      intro tok y d hm hy9 hnx2 K3 N7
      k_steps
      unfold Stop
      refine my_subN N7 (List.mem_append_right own2 (.tail _ (.head _))) (by have := (List.getElem?_eq_some_iff.mp hy9).1; omega) hy9 ?_
      k_steps
      exact cj_end K3 hnx2 rfl (by assumption) (by assumption)
    case cdn =>
      intro D2 ys nx2 h2 tk2 e hJ F8 N8 hDn hlt
      refine cj_done hJ hvl N8 hlt ?_
      clear hJ N8 hDn hlt
      intro N8 hD hlt
      cases wd
      · exact absurd rfl hw
      · dsimp only [Wd.str] at N8
        rename Fr _ _ _ _ => F8
        dsimp only [Wd.str] at F8
        simp only [Wd.arity, decide_eq_true_eq] at har
        k_steps
        unfold Stop
        refine' conj_ok _ _ _ _ _ _ _ _ _ _ _ _ _ _ _ _ _ _ _ D2 ys e (List.take k (List.drop n Ms)) (tl ++ rest) _ _ _ ?B ?F ?X N8 ?T ?hk hD.out ?h3 ?hd ?hu ?ret
        case B => assumption
        case F => assumption
        case X => assumption
        case T => assumption
        case hk => rfl
        case h3 => rw [List.length_take]; omega
        case hd => dsimp only [ktrTop]; omega
        case hu => dsimp only [ktrTop]; omega
        case ret =>
          intro r pre h' tk' hr hab' F8 N6
          have N7 := newsRot (newsConj N6)
          have hr9 := Hid.mk hr
          have hpre := Hid.mk (pre_abv hlt.out (pre := pre) fun p hp => Nat.le_of_lt (hab' p hp _ (.head _)))
          clear N6 N8 hr hab'
          k_steps
          unfold Stop
          rename News _ _ _ _ => N7
          rename Fr _ _ _ _ => F8
          refine' my_setN F8 N7 (upd_gl U (pre_off hRg hpre.out)) hj1 hj2 ?_
          intro h9 F9 N9
          k_steps
          exact (goal_end hW hnx K hj hr9.out hpre.out (fun y h1 h2 h3 h4 h5 => by simp only [if_neg h1, if_neg h2, if_neg h3, if_neg h4, if_neg h5]) rfl F9 N9).1
      · dsimp only [Wd.str] at N8
        rename Fr _ _ _ _ => F8
        dsimp only [Wd.str] at F8
        simp only [Wd.arity, Bool.and_eq_true, decide_eq_true_eq] at har
        have hk3 : k = 1 ∨ k = 2 ∨ k = 3 := by omega
        rcases hk3 with har | har | har
        · subst har
          refine args1 (P := fun ys => News _ _ _ ((D2, listOf ys.toArray e) :: _)) hD.out hle N8 ?_
          clear N8 hD
          intro a1 d1 hds N8 b1
          replace N8 := newsDrop2 N8
          have hlg := goal_lts hlt.out
          obtain ⟨lgD, lcD, lxD, ldD, lnD, lwD, hRD⟩ := hlg
          k_steps
          unfold Stop
          rename News _ _ _ _ => N6
          rename Fr _ _ _ _ => F8
          have NP := Hid.mk (newsRotP (pre := [_]) N6 hlt.out (List.forall_mem_cons.mpr ⟨by (try dsimp only); omega, List.forall_mem_nil _⟩))
          refine' my_setN F8 NP.out.1 (upd_gl U (pre_off hRg NP.out.2)) hj1 hj2 ?_
          intro h9 F9 N9
          k_steps
          rw [hds] at K
          exact (goal_end hW hnx K hj (DatIn.mono (fun p hp => List.mem_append_right _ hp) b1.out) NP.out.2 (fun y h1 h2 h3 h4 h5 => by simp only [if_neg h1, if_neg h2, if_neg h3, if_neg h4, if_neg h5]) rfl F9 N9).1
        · subst har
          refine args2 (P := fun ys => News _ _ _ ((D2, listOf ys.toArray e) :: _)) hD.out hle N8 ?_
          clear N8 hD
          intro a1 a2 d1 d2 hds N8 b1 b2
          replace N8 := newsDrop2 N8
          have hlg := goal_lts hlt.out
          obtain ⟨lgD, lcD, lxD, ldD, lnD, lwD, hRD⟩ := hlg
          k_steps
          unfold Stop
          rename News _ _ _ _ => N6
          rename Fr _ _ _ _ => F8
          have NP := Hid.mk (newsRotP (pre := [_, _, _]) N6 hlt.out (List.forall_mem_cons.mpr ⟨by (try dsimp only); omega, List.forall_mem_cons.mpr ⟨by (try dsimp only); omega, List.forall_mem_cons.mpr ⟨by (try dsimp only); omega, List.forall_mem_nil _⟩⟩⟩))
          refine' my_setN F8 NP.out.1 (upd_gl U (pre_off hRg NP.out.2)) hj1 hj2 ?_
          intro h9 F9 N9
          k_steps
          rw [hds] at K
          exact (goal_end hW hnx K hj (DatIn.tuple (.head _) (.cons (.str _ _) (.cons (.int _ _) (.cons (.tuple (.tail _ (.head _)) (.cons (DatIn.mono (fun p hp => List.mem_append_right _ hp) b1.out) (.cons (DatIn.mono (fun p hp => List.mem_append_right _ hp) b2.out) (.nil)))) .nil)))) NP.out.2 (fun y h1 h2 h3 h4 h5 => by simp only [if_neg h1, if_neg h2, if_neg h3, if_neg h4, if_neg h5]) rfl F9 N9).1
        · subst har
          refine args3 (P := fun ys => News _ _ _ ((D2, listOf ys.toArray e) :: _)) hD.out hle N8 ?_
          clear N8 hD
          intro a1 a2 a3 d1 d2 d3 hds N8 b1 b2 b3
          replace N8 := newsDrop2 N8
          have hlg := goal_lts hlt.out
          obtain ⟨lgD, lcD, lxD, ldD, lnD, lwD, hRD⟩ := hlg
          k_steps
          unfold Stop
          rename News _ _ _ _ => N6
          rename Fr _ _ _ _ => F8
          have NP := Hid.mk (newsRotP (pre := [_, _, _, _, _]) N6 hlt.out (List.forall_mem_cons.mpr ⟨by (try dsimp only); omega, List.forall_mem_cons.mpr ⟨by (try dsimp only); omega, List.forall_mem_cons.mpr ⟨by (try dsimp only); omega, List.forall_mem_cons.mpr ⟨by (try dsimp only); omega, List.forall_mem_cons.mpr ⟨by (try dsimp only); omega, List.forall_mem_nil _⟩⟩⟩⟩⟩))
          refine' my_setN F8 NP.out.1 (upd_gl U (pre_off hRg NP.out.2)) hj1 hj2 ?_
          intro h9 F9 N9
          k_steps
          rw [hds] at K
          exact (goal_end hW hnx K hj (DatIn.tuple (.head _) (.cons (.str _ _) (.cons (.int _ _) (.cons (.tuple (.tail _ (.head _)) (.cons (DatIn.mono (fun p hp => List.mem_append_right _ hp) b1.out) (.cons (DatIn.tuple (.tail _ (.tail _ (.head _))) (.cons (.str _ _) (.cons (.int _ _) (.cons (.tuple (.tail _ (.tail _ (.tail _ (.head _)))) (.cons (DatIn.mono (fun p hp => List.mem_append_right _ hp) b2.out) (.cons (DatIn.mono (fun p hp => List.mem_append_right _ hp) b3.out) (.nil)))) .nil)))) (.nil)))) .nil)))) NP.out.2 (fun y h1 h2 h3 h4 h5 => by simp only [if_neg h1, if_neg h2, if_neg h3, if_neg h4, if_neg h5]) rfl F9 N9).1
      · dsimp only [Wd.str] at N8
        rename Fr _ _ _ _ => F8
        dsimp only [Wd.str] at F8
        simp only [Wd.arity, beq_iff_eq] at har
        subst har
        refine args2 (P := fun ys => News _ _ _ ((D2, listOf ys.toArray e) :: _)) hD.out hle N8 ?_
        clear N8 hD
        intro a1 a2 d1 d2 hds N8 b1 b2
        replace N8 := newsDrop2 N8
        have hlg := goal_lts hlt.out
        obtain ⟨lgD, lcD, lxD, ldD, lnD, lwD, hRD⟩ := hlg
        k_steps
        unfold Stop
        rename News _ _ _ _ => N6
        rename Fr _ _ _ _ => F8
        have NP := Hid.mk (newsRotP (pre := [_, _, _]) N6 hlt.out (List.forall_mem_cons.mpr ⟨by (try dsimp only); omega, List.forall_mem_cons.mpr ⟨by (try dsimp only); omega, List.forall_mem_cons.mpr ⟨by (try dsimp only); omega, List.forall_mem_nil _⟩⟩⟩))
        refine' my_setN F8 NP.out.1 (upd_gl U (pre_off hRg NP.out.2)) hj1 hj2 ?_
        intro h9 F9 N9
        k_steps
        rw [hds] at K
        exact (goal_end hW hnx K hj (DatIn.tuple (.head _) (.cons (.str _ _) (.cons (.int _ _) (.cons (.tuple (.tail _ (.head _)) (.cons (DatIn.mono (fun p hp => List.mem_append_right _ hp) b1.out) (.cons (DatIn.mono (fun p hp => List.mem_append_right _ hp) b2.out) (.nil)))) .nil)))) NP.out.2 (fun y h1 h2 h3 h4 h5 => by simp only [if_neg h1, if_neg h2, if_neg h3, if_neg h4, if_neg h5]) rfl F9 N9).1
      · dsimp only [Wd.str] at N8
        rename Fr _ _ _ _ => F8
        dsimp only [Wd.str] at F8
        simp only [Wd.arity, beq_iff_eq] at har
        subst har
        refine args1 (P := fun ys => News _ _ _ ((D2, listOf ys.toArray e) :: _)) hD.out hle N8 ?_
        clear N8 hD
        intro a1 d1 hds N8 b1
        replace N8 := newsDrop2 N8
        have hlg := goal_lts hlt.out
        obtain ⟨lgD, lcD, lxD, ldD, lnD, lwD, hRD⟩ := hlg
        k_steps
        unfold Stop
        rename News _ _ _ _ => N6
        rename Fr _ _ _ _ => F8
        have NP := Hid.mk (newsRotP (pre := [_, _, _]) N6 hlt.out (List.forall_mem_cons.mpr ⟨by (try dsimp only); omega, List.forall_mem_cons.mpr ⟨by (try dsimp only); omega, List.forall_mem_cons.mpr ⟨by (try dsimp only); omega, List.forall_mem_nil _⟩⟩⟩))
        refine' my_setN F8 NP.out.1 (upd_gl U (pre_off hRg NP.out.2)) hj1 hj2 ?_
        intro h9 F9 N9
        k_steps
        rw [hds] at K
        exact (goal_end hW hnx K hj (DatIn.tuple (.head _) (.cons (.str _ _) (.cons (.int _ _) (.cons (.tuple (.tail _ (.head _)) (.cons (DatIn.mono (fun p hp => List.mem_append_right _ hp) b1.out) (.nil))) .nil)))) NP.out.2 (fun y h1 h2 h3 h4 h5 => by simp only [if_neg h1, if_neg h2, if_neg h3, if_neg h4, if_neg h5]) rfl F9 N9).1
  case done =>
    intro u gvs eg tl h tk F8 N8 hG
    obtain ⟨mt9, hmt9⟩ : ∃ mt9, Ms[0]? = some mt9 := ⟨_, List.getElem?_eq_getElem (by omega)⟩
    obtain ⟨y9, hy9, hdy⟩ := datAll_at' hG.out.2.1 hmt9
    replace hy9 : gvs[(0 : Int).toNat]? = some y9 := hy9
    have hdy9 := Hid.mk hdy
    clear hn hM9 hdy
    k_steps
    rename_i N9 _ _
    exact hret.out y9 tl _ _ mt9 hmt9 hdy9.out (fun p hp => (hG.out.2.2 p hp).2) (by assumption) (newsTail (newsTail N9))
end
section
theorem hold_law (w : World) (mean : ExcName → Option Value) (mg mb : Str → Option Value) 
  (dp un : Nat) (gd : Option (List Code)) (cn0 : Str) (cs : Scope) (a : Addr) (ccd : Value) (cl : List (Str × Addr)) (outer : List Env) (A₀ : Around) (base h₀ : Heap) (L : Addr) (m : Str → Option Value) (s : Shared) {Q E : Value → Shared → Prop}
  {S : Nat} {root : Tr} {pl hd1 ed cn x dx nl wl pt : Addr} {rv : Value} {pls : List Nat} {q : Nat} {wd : Wd} {ks : List Tr} {Wk : List (Nat × Tr)} {TT : List Tr} {Nd : List Dat} {nvs wvs pvs kvs qvs : List Value} {eo ho o2 o3 o4 o5 : Obj} {fe fh fe' fh' : Int → Option Value} {pool tl : List (Addr × Obj)} {Dw Dt Dn : Addr} {ve : Value}
  {hh1 hh2 : Int} {t1 t2 tw : Tok} {nd e1 e2 e4 : Nat}
  (B : Below A₀ base outer h₀) (F : Fr h₀ L s.heap m) (X : (hd.heap_39 w.params).In h₀)
  (N : News h₀ L s.heap ((pt, listOf qvs.toArray e4) :: (pl, o2) :: (hd1, o3) :: (ed, o4) :: (cn, o5) :: (x, instObj 57 dx) :: (dx, dictOf [⟨hh1, .str (PySem.Str.ofString "nodes") t1, .ref nl⟩, ⟨hh2, .str (PySem.Str.ofString "waiting") t2, .ref wl⟩] nd) :: (nl, listOf nvs.toArray e1) :: (wl, listOf wvs.toArray e2) :: (tl ++ pool)))
  (T : Top hd.view_39 (looseW hd.view_39 []) mean mg mb h₀) (hk : cs.kind = .function) (hd9 : dp ≤ 400) (hu : un ≤ 1000)
  (K : Hid (Kp S root pl hd1 ed cn x dx nl wl rv pls q wd ks Wk TT Nd nvs wvs pvs kvs eo ho fe fh pool Dw Dt Dn ve)) (I : Inv S root pls ((q, Tr.mk pls.length wd ks) :: Wk) TT Nd) (hS : S ≤ 40) (K8 : Hid (FK pool fe fh pls.length ks ks.length pt qvs fe' fh' tl))
  (hL : Hid (∀ b ∈ [pl, hd1, ed, cn, x, dx, nl, wl], @LT.lt Nat _ b pt)) (G : Far8 pl hd1 ed cn x dx nl wl)
  (ret : ∀ r nvs' wvs' e1' e2' tl2 h' tk', Hid (HoldOut nl wl ((pt, listOf qvs.toArray e4) :: (pl, o2) :: (hd1, o3) :: (ed, o4) :: (cn, o5) :: (tl ++ pool)) (tl ++ pool) tl2 r nvs' wvs' wd.str Nd (Wk.map wkDat).reverse (ks.map Tr.part)) → q < nvs'.length → Hid (∀ p ∈ tl2 ++ (pt, listOf qvs.toArray e4) :: (pl, o2) :: (hd1, o3) :: (ed, o4) :: (cn, o5) :: (tl ++ pool), p.1 ≠ nl) → Fr h₀ L h' m →
    News h₀ L h' ((x, instObj 57 dx) :: (dx, dictOf [⟨hh1, .str (PySem.Str.ofString "nodes") t1, .ref nl⟩, ⟨hh2, .str (PySem.Str.ofString "waiting") t2, .ref wl⟩] nd) :: (nl, listOf (List.toArray nvs') e1') :: (wl, listOf (List.toArray wvs') e2') :: (tl2 ++ (pt, listOf qvs.toArray e4) :: (pl, o2) :: (hd1, o3) :: (ed, o4) :: (cn, o5) :: (tl ++ pool))) → Q r { s with heap := h', toks := tk' }) :
   wpAny (model PySem.Challenge.rw_sa0140_01.row.prog w) (ktrTop dp un gd cn0 cs L a ccd cl outer) (call (.ref 49) [.ref x, .str wd.str tw, .ref pt]) Q E s := by
  obtain ⟨⟨hq9, hev9, hhv9, hsame9, hab9⟩⟩ := K8
  rw [List.take_length] at hq9
  obtain ⟨g1, g2, g3, g4, g5, g6, g7, g8⟩ := G
  have hoff := Kp.hoff K
  have o7 := hoff _ (.tail _ (.tail _ (.tail _ (.tail _ (.tail _ (.tail _ (.head _)))))))
  have o8 := hoff _ (.tail _ (.tail _ (.tail _ (.tail _ (.tail _ (.tail _ (.tail _ (.head _))))))))
  obtain ⟨hr1, hr2⟩ := off_restN N hL.out hab9 o7 o8 g1.2.2.2.2.2 g2.2.2.2.2 g3.2.2.2 g4.2.2
  have hNl := I.len
  have hbd := I.bound
  have hcnt := I.cnt
  rw [List.length_cons] at hcnt
  have hk3 := kids_le (I.tr_ok (.head _))
  have hqd : q < Nd.length := (List.getElem?_eq_some_iff.mp (I.wk _ (.head _)).2.2).1
  refine hold_ok w mean mg mb dp un gd cn0 cs a ccd cl outer A₀ base h₀ L m s x dx nl wl pt hh1 hh2 t1 t2 tw nd e1 e2 e4 nvs wvs qvs _ (tl ++ pool) wd.str Nd (Wk.map wkDat).reverse (ks.map Tr.part) Q E B F X (newsHold N) T hk (.head _) (fun p hp => .tail _ (.tail _ (.tail _ (.tail _ (.tail _ hp)))))
    (by rw [List.map_map]; exact hq9) ((Kp.hnv K).mono fun p hp => List.mem_append_right _ hp) ((Kp.hww K).mono fun p hp => List.mem_append_right _ hp) (by rw [List.length_map]; exact Nat.le_trans hk3 (by decide)) (by omega) (by rw [List.length_reverse, List.length_map]; omega) (Ne.symm g5.2.1) (Ne.symm g6.1) (Ne.symm g5.2.2) (Ne.symm g6.2) g7 hr1 hr2 hd9 hu ?_
  intro r nvs' wvs' e1' e2' tl2 h6 tk6 hr9 hnv9 hwv9 h29 F9 N9
  have h1 := hnv9.length
  rw [List.length_append] at h1
  exact ret r nvs' wvs' e1' e2' tl2 h6 tk6 ⟨⟨hr9, hnv9, hwv9, h29⟩⟩ (by omega) ⟨off_tl h29 hr1⟩ F9 N9
end
section
set_option maxRecDepth 100000 in
set_option maxHeartbeats 8000000 in
theorem law0 : PySem.Challenge.rw_sa0140_01.Holds := hd (by
  w_top off
  k_with_none
  k_with "units_room" => (((have _ := cLine_is); simp only [units_in1, units_deeper, Around.mark_units, units_caller]; (try dsimp only [ktrTop]); omega))
  k_with "k_all" => (assumption)
  k_with "kpa_ne" => (exact pos_of_ne (by assumption) (by assumption))
  k_with "call builtin:list.reverse" => ((k_here; k_dflt (refine' my_reverse ?zF ?zN ?zU ?zz ?_; (case zF => k_asm); (case zN => k_asm); (case zU => k_upd); (case zz => ((simp only [sizeLine_eq, List.length_append, List.length_cons, List.length_nil]); first | omega | ((simp only [rangeKs_length] at *); omega)))); intro _ _ _; (try k_sweep)))
  k_with "call builtin:list.append" => ((k_here; (with_reducible show wpAny _ _ (call (Value.builtin _) [Value.ref _, _]) _ _ _); k_dflt (refine' my_append ?zF ?zN ?zU ?zz ?_; (case zF => k_asm); (case zN => k_asm); (case zU => k_upd); (case zz => ((simp only [sizeLine_eq, List.length_append, List.length_cons, List.length_nil]); first | omega | ((simp only [rangeKs_length] at *); omega)))); intro _ _ _; (try k_sweep)))
  k_with "call builtin:len" => ((k_here; (with_reducible show wpAny _ _ (call (Value.builtin "len") [Value.ref _]) _ _ _); k_dflt (refine' my_len ?zN ?zm ?zz ?_; (case zN => k_asm); (case zm => k_mem); (case zz => ((try simp only [List.length_append, List.length_cons, List.length_nil]); omega))); (try simp only [List.length_append, List.length_cons, List.length_nil])))
  k_with "k_room" => (((try simp only [depth_under_make, depth_under_kw, depth_in1, depth_deeper, depth_caller, recursionLimit]); (try dsimp only [ktrTop]); omega))
  k_with "k_units" => (units_room)
  k_with "k_enter" => (first
    | (refine' code_def ?ze1 ?ze2 ?ze3 ?ze4 ?ze5 ?ze6 ?ze7 ?ze8 ?ze9 ?ze10 ?ze11 ?ze12 ?ze13 ?_ ?ze14 ?ze15 ?ze16 ?ze17; (case ze6 => exact rfl); (case ze7 => exact rfl); (case ze8 => first | exact rfl | assumption); (case ze1 => k_asm); (case ze2 => k_asm); (case ze3 => k_asm); (case ze4 => k_asm); (case ze5 => k_asm); (case ze9 => k_is); (case ze10 => k_is); (case ze11 => k_room); (case ze12 => exact BindsTo.of_eq rfl); (case ze17 => decide); (case ze13 => exact locs rfl); (case ze14 => exact rfl); (case ze15 => exact rfl); (case ze16 => exact rfl); k_whole; intro _ _ _ _ _ _ _ _ _; (try dsimp only); (try k_fold))
    | (refine' code_defC ?ze1 ?ze2 ?ze3 ?ze4 ?ze5 ?ze6 ?ze7 ?ze8 ?ze9 ?ze10 ?ze11 ?ze12 ?ze13 ?ze14 ?_ ?ze15 ?ze16 ?ze17; (case ze6 => exact rfl); (case ze7 => exact rfl); (case ze8 => first | exact rfl | assumption); (case ze1 => k_asm); (case ze2 => k_asm); (case ze3 => k_asm); (case ze4 => k_asm); (case ze5 => k_asm); (case ze9 => k_is); (case ze10 => k_is); (case ze11 => k_room); (case ze12 => exact BindsTo.of_eq rfl); (case ze13 => exact rfl); (case ze14 => decide +kernel); (case ze15 => exact rfl); (case ze16 => exact rfl); (case ze17 => exact rfl); k_whole; intro _ _ _ _ _ _ _ N'z Y'z _ _ _ l1z; (try k_lt l1z); k_cells Y'z; (try simp only [List.cons_append, List.nil_append] at N'z); (try dsimp only); (try k_fold)))
  k_with "call ref" => ((k_here; (with_reducible show wpAny _ _ (call (Value.ref 68) _) _ _ _); refine stopHere ?_))
  k_with "call ref" => ((k_here; (with_reducible show wpAny _ _ (call (Value.ref 80) _) _ _ _); refine stopHere ?_))
  k_with "call ref" => ((k_here; (with_reducible show wpAny _ _ (call (Value.ref 49) _) _ _ _); refine stopHere ?_))
  k_with "call ref" => ((k_here; (with_reducible show wpAny _ _ (call (Value.ref 54) _) _ _ _); refine stopHere ?_))
  k_with "call ref" => ((k_here; (with_reducible show wpAny _ _ (call (Value.ref 85) _) _ _ _); refine stopHere ?_))
  k_with "exec While" => ((k_here; refine stopHere ?_))
  k_with "eval Dict" => ((k_here; k_dflt (refine' kdn_int ?zq ?zF ?zN ?zb ?za ?zl ?ze ?zn ?_; (case zq => rfl); (case zF => k_asm); (case zN => first | k_asm | exact News.nil); (case zb => exact Top.nolimit (by k_asm)); (case za => rfl); (case zl => rfl); (case ze => exact List.cons_ne_nil _ _); (case zn => exact Nat.le_of_ble_eq_true rfl)); intro _ _ _ _ _ l1z _ _; (try k_lt l1z)))
  k_with "compareOp NotEq ref ref" => ((k_here; refine stopHere ?_))
  k_with "compareOp Eq ref ref" => ((k_here; refine stopHere ?_))
  k_with "compareOp In int ref" => ((k_here; refine stopHere ?_))
  k_with "subscriptTail Name Name ref int" => ((k_here; refine stopHere ?_))
  k_with "subscriptTail" => ((k_here; (with_reducible show wpAny _ _ (subscriptTail _ _ (Value.ref _) (Value.int (Nat.cast _) _)) _ _ _); refine stopHere ?_))
  k_with "setItem" => ((k_here; refine stopHere ?_))
  k_with "k_mem" => (assumption)
  k_with "call builtin:list.pop" => ((k_here; (with_reducible show wpAny _ _ (call (Value.builtin "list.pop") [Value.ref _]) _ _ _); k_dflt (refine' my_pop ?zF ?zN ?zU ?zz ?_; (case zF => k_asm); (case zN => k_asm); (case zU => k_upd); (case zz => omega)); intro _ _ _; (try k_sweep)))
  k_with "exec If" => ((k_here; (rename MarkIf => hMkz); clear hMkz; refine stopHere ?_))
  k_with "TkEnd" => (refine stopHere ?_)
  k_with "exec For Name Name cons nil" => ((k_here; (rename Fr _ _ _ _ => lF'z); (with_unfolding_all refine' For_invVF lF'z ?zk1 ?zk2 ?_; (case zk1 => exact rfl); (case zk2 => exact rfl); k_whole)))
  k_with "pyIter ref" => (((with_reducible show wpAny _ _ (pyIter (Value.ref _)) (fun it s₂ => LoopAtV _ _ _ _ _ _ _ _ _ it s₂) _ _); refine stopHere ?_))
  k_with "ForPost" => (refine stopHere ?_)
  k_with "WhileStep2" => (refine stopHere ?_)
  k_with "subscriptTail Name Constant ref int" => ((k_here; (with_reducible show wpAny _ _ (subscriptTail _ _ (Value.ref _) (Value.int _ _)) _ _ _); k_dflt (refine' my_tsub ?zN ?zm ?za ?zb ?zc ?zd ?_; (case zN => k_asm); (case zm => k_mem); (case za => decide); (case zb => decide); (case zc => rfl); (case zd => rfl); k_whole)))
  k_with "subscriptTail Name Constant ref int" => ((k_here; (with_reducible show wpAny _ _ (subscriptTail _ _ (Value.ref _) (Value.int _ _)) _ _ _); k_dflt (refine' my_sub ?zN ?zm ?za ?zb ?zc ?_; (case zN => k_asm); (case zm => k_mem); (case za => decide); (case zb => decide); (case zc => rfl); k_whole)))
  k_with "k_ne" => ((refine neN ?_; (try dsimp only); (first | exact g1.1 | exact Ne.symm g1.1 | exact g1.2.1 | exact Ne.symm g1.2.1 | exact g1.2.2.1 | exact Ne.symm g1.2.2.1 | exact g1.2.2.2.1 | exact Ne.symm g1.2.2.2.1 | exact g1.2.2.2.2.1 | exact Ne.symm g1.2.2.2.2.1 | exact g1.2.2.2.2.2.1 | exact Ne.symm g1.2.2.2.2.2.1 | exact g1.2.2.2.2.2.2 | exact Ne.symm g1.2.2.2.2.2.2 | exact g2.1 | exact Ne.symm g2.1 | exact g2.2.1 | exact Ne.symm g2.2.1 | exact g2.2.2.1 | exact Ne.symm g2.2.2.1 | exact g2.2.2.2.1 | exact Ne.symm g2.2.2.2.1 | exact g2.2.2.2.2.1 | exact Ne.symm g2.2.2.2.2.1 | exact g2.2.2.2.2.2 | exact Ne.symm g2.2.2.2.2.2 | exact g3.1 | exact Ne.symm g3.1 | exact g3.2.1 | exact Ne.symm g3.2.1 | exact g3.2.2.1 | exact Ne.symm g3.2.2.1 | exact g3.2.2.2.1 | exact Ne.symm g3.2.2.2.1 | exact g3.2.2.2.2 | exact Ne.symm g3.2.2.2.2 | exact g4.1 | exact Ne.symm g4.1 | exact g4.2.1 | exact Ne.symm g4.2.1 | exact g4.2.2.1 | exact Ne.symm g4.2.2.1 | exact g4.2.2.2 | exact Ne.symm g4.2.2.2 | exact g5.1 | exact Ne.symm g5.1 | exact g5.2.1 | exact Ne.symm g5.2.1 | exact g5.2.2 | exact Ne.symm g5.2.2 | exact g6.1 | exact Ne.symm g6.1 | exact g6.2 | exact Ne.symm g6.2 | exact g7 | exact Ne.symm g7 | fail)))
  k_go0
  (all_goals try k_fold)
  k_steps
  unfold Stop
  refine' coins_ok _ _ _ _ _ _ _ _ _ _ _ _ _ _ _ _ _ _ _ _ _ _ _ _ _ ?B ?F ?X ?N ?T ?hk ?hl ?I ?hlen ?hd ?hu ?ret
  case B => assumption
  case F => assumption
  case X => assumption
  case N => assumption
  case T => assumption
  case hk => rfl
  case hl => assumption
  case I => assumption
  case hlen => omega
  case hd => decide
  case hu => decide
  case ret =>
    intro c ws e h9 tk9 hI9 F9 N9 hlt9
    k_steps
    unfold Stop
    rename News _ _ _ _ => N8
    refine' (drawn_ok _ _ _ _ 3).out _ _ _ _ _ _ _ _ _ _ _ _ _ _ _ c _ ws e 0 0 0 3 [] _ _ _ _ ?B ?F ?X (newsSub N8 ?N) ?T ?hk hI9 rfl rfl ?hck (fun _ hp => nomatch hp) (fun _ hp => nomatch hp) ?hd ?hu ?ret
    case N => intro p hp; simp only [List.mem_cons, List.not_mem_nil, or_false] at hp ⊢; exact hp.symm
    case B => assumption
    case F => assumption
    case X => assumption
    case T => assumption
    case hk => rfl
    case hck => exact Nat.ne_of_lt (by assumption)
    case hd => decide
    case hu => decide
    case ret =>
      intro rv t ws' e' e2' tn' nj tl h8 tk8 hpre hok hnj hcoin hdat hab F7 N7
      rw [List.append_nil] at N7
      have N6 := newsTail N7
      clear N7 hI9 hcoin hlt9
      k_steps
      unfold Stop
      rename News _ _ _ _ => NN
      rename Fr _ _ _ _ => FF
      rename Obj.IsDictOf _ _ (intKeyPairs _) => hde
      rename_i aN _ pl _ lP _
      try dsimp only at NN
      try dsimp only at FF
      try dsimp only at aN
      try dsimp only at lP
      obtain ⟨hd0, e0⟩ := nameHd NN
      rw [← e0] at NN FF lP
      simp only [List.forall_mem_cons, ← e0] at aN
      rename _ < _ ∧ AllLt _ tl => lT
      have FO := far8_of aN ⟨by omega, by omega, by omega, by omega, by omega, by omega, by omega, by omega, lP.2.1⟩ lP.1 lT.2 fun p hp => (hab p hp).2.1
      obtain rfl : nj = (t.size : Int) := by omega
      have FG : Fr _ _ _ (lawMap _ _ _ _ _ _ _ _) := FF
      clear FF
      have HS := fun hoff => law_start FG NN hpre hok hdat hoff hde (by assumption)
      obtain ⟨nx, n, hh1, hh2, t1, t2, tn2, nd, ec, N1, hJ⟩ := HS (FO.2 _ _ _)
      clear HS
      obtain ⟨⟨g1, g2, g3, g4, g5, g6, g7, ⟨hxn, hdn⟩⟩, -⟩ := FO
      refine While_inv2 (LJ t.size t _ _ _ _ _ _ _ _ _ _ _ _ _ _ _ _ _) FG N1 hJ ?turn
      clear N1 hJ NN hde
      have htk := Tr.size_le hok
      intro n m₁ nx h₁ tk₁ F5 N5 hJ
      refine LJ.elim hJ htk F5 N5 ?nilw ?consw
      case nilw =>
        clear F5 N5 hJ
        intro u pls TT Nd nvs wvs pvs e1 e2 e3 eo ho pool F5 N5 hTl hbd hpl hN0 keep
        k_steps
        unfold Stop
        refine my_ne_nil 9 (by assumption) (.tail _ (.tail _ (.tail _ (.tail _ (.tail _ (.tail _ (.tail _ (.tail _ (.head _))))))))) (.head _) keep.2.2.2.2 (fun p hp => .tail _ (.tail _ (.tail _ (.tail _ (.tail _ (.tail _ (.tail _ (.tail _ (.tail _ hp))))))))) (fun _ h => nomatch h) (by decide) (by units_room) ?_
        rename News _ _ _ _ => N6
        replace N6 := newsTail N6
        k_steps
        unfold Stop
        rename News _ _ _ _ => N6
        refine' goal_ok _ _ _ _ _ _ _ _ _ _ _ _ _ _ _ _ _ _ _ _ _ _ _ _ _ _ _ _ _ _ nvs _ _ Nd (Tr.meants TT) _ _ ?B ?F ?X (newsGoal N6) ?T ?hk (keep.1.mono fun p hp => .tail _ (.tail _ (.tail _ (.tail _ hp)))) (by rw [Tr.meants_length]; exact hTl) keep.2.2.1 (by omega) (by omega) ?hd ?hu ?ret4
        case B => assumption
        case F => assumption
        case X => assumption
        case T => assumption
        case hk => rfl
        case hd => decide
        case hu => decide
        case ret4 =>
          intro r1 tl1 h6 tk6 mt hmt hr1 h19 F9 N9
          have hr1' : Hid (DatIn _ r1 t.meant) := ⟨by rw [meants_get, keep.2.2.2.1] at hmt; exact Option.some.inj hmt ▸ hr1⟩
          clear hr1 h19 N6 hmt
          simp only [treeIs] at N9
          k_steps
          unfold Stop
          rename News _ _ _ _ => N8
          refine' (meant_ok _ _ _ _ 3).out _ _ _ _ _ _ _ _ _ _ _ _ _ _ _ t rv pool _ _ _ ?B ?F ?X N8 ?T ?hk keep.2.1 (fun p hp => .tail _ (.tail _ (.tail _ (.tail _ (List.mem_append_right _ (.tail _ (.tail _ (.tail _ (.tail _ hp))))))))) hok ?hd ?hu (by decide) ?ret5
          case B => assumption
          case F => assumption
          case X => assumption
          case T => assumption
          case hk => rfl
          case hd => decide
          case hu => decide
          case ret5 =>
            intro r2 tl2 h5 tk5 hr2 h29 F8 N7
            have hr2' := Hid.mk hr2
            clear hr2 h29 N8
            k_steps
            refine my_eq_same 16 N7 hr1'.out (fun p hp => List.mem_append_right _ (.tail _ (.tail _ (.tail _ (.tail _ hp))))) hr2'.out (fun p hp => List.mem_append_left _ hp) (Tr.meant_ok 3 t hok) (by decide) (by units_room) ?_
            clear hr1' hr2' N7
            k_steps
      case consw =>
        clear F5 N5 hJ
        intro u pls q wd ks Wk TT Nd nvs wvs pvs kvs e1 e2 e3 nk eo ho fe fh pool Dw Dt Dk Dn ve tq th tt tm tw nw nt F5 N5 I hn hm1 hm2 hm3 hvn hve hlw hbd hcnt hpl hqn hqT hTN o1 o2 o3 o4 o5 o6 o7 o8 K
        refine turn_abs ?_
        intro sv W9 hW9
        (repeat ((rename PyProof.V.FlatPairs _ _ _ => fp9); clear fp9))
        have hqi : (q : Int) < 2 ^ 62 := by omega
        k_steps
        unfold Stop
        refine my_ne_some 9 (by assumption) (.tail _ (.tail _ (.tail _ (.tail _ (.tail _ (.tail _ (.tail _ (.tail _ (.head _))))))))) (.head _) (Kp.hwv K) (fun p hp => .tail _ (.tail _ (.tail _ (.tail _ (.tail _ (.tail _ (.tail _ (.tail _ (.tail _ hp))))))))) (Kp.hwok K) (by decide) (by units_room) ?_
        rename News _ _ _ _ => N6
        replace N6 := newsTail N6
        k_steps
        all_goals first
          | exact absurd rfl (by assumption)
          | (with_reducible show Stop _)
        unfold Stop
        rename News _ _ _ _ => N6
        refine' my_dsub N6 (.tail _ (.tail _ (.tail _ (.head _)))) (Kp.hde K) hve ?_
        refine my_ne_same 2 N6 (n₁ := _ :: _) (.tuple (.head _) (.cons (.int _ _) (.cons (.int _ _) .nil))) (fun _ hp => hp) (Kp.hdve K) (fun p hp => .tail _ (.tail _ (.tail _ (.tail _ (.tail _ (.tail _ (.tail _ (.tail _ (.tail _ (hp)))))))))) (by simp [kqdOk]) (by decide) (by units_room) ?_
        replace N6 := newsTail N6
        k_steps
        unfold Stop
        refine my_notin (by assumption) (.head _) (Kp.hpv K) (Kp.hq K) (by units_room) ?_
        k_steps
        unfold Stop
        rename News _ _ _ _ => N6
        refine my_subN N6 (.tail _ (.tail _ (.tail _ (.tail _ (.tail _ (.tail _ (.head _))))))) hqi hvn ?_
        k_steps
        unfold Stop
        rename News _ _ _ _ => N6
        refine my_ne_same 9 N6 (n₂ := _ :: _) (Kp.hdn K) (fun p hp => .tail _ (.tail _ (.tail _ (.tail _ (.tail _ (.tail _ (.tail _ (.tail _ (.tail _ (hp)))))))))) (.tuple (.head _) (.cons (.str _ _) (.cons (DatIn.mono (fun p hp => .tail _ (.tail _ (.tail _ (.tail _ (.tail _ (.tail _ (.tail _ (.tail _ (.tail _ (hp)))))))))) (Kp.hdt K)) .nil))) (fun _ hp => hp) (goal_okd (I.tr_ok (.head _))) (by decide) (by units_room) ?_
        replace N6 := newsTail N6
        have hMk : MarkIf := ⟨⟩
        k_steps
        unfold Stop
        refine if_false ?_ ?_
        · k_steps
          all_goals unfold Stop
          · rename News _ _ _ _ => N6
            refine Kp.holder K hpl (by assumption) (by omega) ?_
            intro hn9 tok9 t29 q' hfh hv' hlt' hni
            refine' my_dsub N6 (.tail _ (.head _)) (Kp.hdh K) hfh ?_
            clear hfh
            k_steps
            unfold Stop
            refine my_subN N6 (.head _) hni hv' ?_
            k_steps
            all_goals exact ⟨rfl, _, rfl⟩
          · exact ⟨rfl, _, rfl⟩
        · intro tk0
          k_steps
          all_goals unfold Stop
          · rename News _ _ _ _ => N6
            refine' my_setN (us := nvs) (by assumption) N6 (by k_upd) hqi hqn ?_
            intro h7 F7 N7
            k_steps
            refine hW9.out _ _ ?_
            refine leaf_end K I hn (by assumption) hpl ?h1 (fun y h1 h2 h3 h4 h5 h6 h7 h8 h9 => by simp only [if_neg h1, if_neg h2, if_neg h3, if_neg h4, if_neg h5, if_neg h6, if_neg h7, if_neg h8, if_neg h9]) rfl F7 N7
            case h1 =>
              (repeat' (refine List.forall_mem_cons.mpr ⟨⟨?_, ?_⟩, ?_⟩))
              all_goals first | exact fun _ h => nomatch h | omega
          · rename News _ _ _ _ => N6
            rename Fr _ _ _ _ => F6
            rename_i pt _ l9 _
            have hL := Hid.mk (ht8_of l9).1
            have hPt := (ht8_of l9).2
            refine' for_held (nvs := nvs) (wvs := wvs) TT.length pvs.length ks rfl F6 N6 rfl hm3 hPt o2 o3 (Kp.hde K) (Kp.hdh K) ?turn2 ?done2
            case turn2 =>
              intro i v m nx h tk own sw W8 hv hJ F8 N8 ho9 hW8
              refine FJ.elim hJ F8 N8 hv (Kp.hks K) (kids_le (I.tr_ok (.head _))) (fun k hk => hpl ▸ I.kid_num htk hk) hPt o2 o3 hL.out ho9 ?_
              clear hJ F8 N8 hv ho9 N6 F6 hPt o1 o2 o3 o4 o5 o6 o7 o8
              intro u9 qvs e49 eo9 hO9 fe9 fh9 tl9 R kn kw kks D9 ta tb vc nt9 hnx F8 N7 hm9 hRpt hRhd hRed hqb hi hk9 hk0 hkb hde9 hdh9 K8 K9
              k_steps
              unfold Stop
              rename News _ _ _ _ => N5
              refine' my_dset (by assumption) N5 (by k_updF) hde9 (by omega) ?_
              intro h5 eo5 F5 N4 hde5
              try dsimp only at N4
              k_steps
              unfold Stop
              rename News _ _ _ _ => N3
              refine' my_dset (by assumption) N3 (by k_updF) hdh9 (by omega) ?_
              intro h4 ho4 F4 N2 hdh4
              try dsimp only at N2
              k_steps
              rename_i D1 _ l1 _ D2 _ l2 _ F9 N9
              refine hW8.out _ ?_
              exact fj_end hk9 K8 K9 (Nat.lt_of_le_of_lt (Nat.zero_le _) hk0) hnx l1.2.2.2.2.2.2.2.2.2 l2.2.2.2.2.2.2.2.2.2.2 l1.1 l2.2.1 hde5 hdh4 (fun y h => by simp only [if_neg h]) rfl F9 N9
            case done2 =>
              intro m nx h tk hJ F8 N8
              refine FJ.done hJ (Kp.hks K) F8 N8 ?_
              clear hJ F8 N8 N6 F6 hPt o1 o2 o3 o4 o5 o6 o7 o8
              intro u9 qvs e49 eo9 hO9 fe9 fh9 tl9 F8 N8 KD K8
              k_steps
              unfold Stop
              rename News _ _ _ _ => N5
              refine' hold_law _ _ _ _ _ _ _ _ _ _ _ _ _ _ _ _ _ _ _ ?B ?F ?X N5 ?T ?hk ?hd ?hu K I htk (hpl ▸ K8) hL ⟨g1, g2, g3, g4, g5, g6, g7, ⟨hxn, hdn⟩⟩ ?ret3
              case B => assumption
              case F => assumption
              case X => assumption
              case T => assumption
              case hk => rfl
              case hd => decide
              case hu => decide
              case ret3 =>
                intro r nvs' wvs' e1' e2' tl2 h6 tk6 O hqn2 hall F9 N9
                clear N5
                k_steps
                unfold Stop
                rename News _ _ _ _ => N5
                rename Fr _ _ _ _ => F5
                refine' my_setN (us := nvs') F5 N5 (Upd.tail g5.2.1 (Upd.tail g6.1 (Upd.head (List.forall_mem_cons.mpr ⟨Ne.symm g7, hall.out⟩)))) hqi hqn2 ?_
                intro h7 F7 N7
                clear F5 N5
                k_steps
                rename News _ _ _ _ => N6
                rename Fr _ _ _ _ => F6
                refine hW9.out _ _ ?_
                exact node_end K I hn (by assumption) KD (hpl ▸ K8) hL hxn hdn O (fun y h1 h2 h3 h4 h5 h6 h7 h8 h9 => by simp only [if_neg h1, if_neg h2, if_neg h3, if_neg h4, if_neg h5, if_neg h6, if_neg h7, if_neg h8, if_neg h9]) rfl F6 N6
  )
end
end Mine
set_option maxRecDepth 100000 in
set_option maxHeartbeats 8000000 in
theorem PySem.Challenge.cw_sa0140_01_holds : PySem.Challenge.rw_sa0140_01.Holds := by
  exact Mine.law0
