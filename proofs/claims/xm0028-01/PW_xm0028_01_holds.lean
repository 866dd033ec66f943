import PyProof.Rows.All
import Wide.All
import OpenK.AllK
import Wide.FinOn
import PySem.Challenge.RW_xm0028_01
open PySem PySem.W PyProof.Rows
set_option Elab.async false
namespace Mine
set_option maxRecDepth 100000 in
set_option maxHeartbeats 8000000 in
open_top hd for PySem.Challenge.rw_xm0028_01
end Mine
namespace Mine
section
abbrev Led := List (Addr × Obj)
/-- a contract: the def at f, its arguments vs, the ledger led; R says what comes back and the ledger then -/
abbrev Con (w : World) (mean : ExcName → Option Value) (mg mb : Str → Option Value) (f : Addr) (d u : Nat) (led : Led) (vs : List Value) (R : Value → Led → Prop) : Prop :=
  ∀ (dp un : Nat) (gd : Option (List Code)) (cn : Str) (cs : Scope) (a : Addr) (ccd : Value) (cl : List (Str × Addr)) (outer : List Env) (A₀ : Around) (base h₀ : Heap) (L : Addr) (m : Str → Option Value) (s : Shared) (Q E : Value → Shared → Prop),
    Below A₀ base outer h₀ → Fr h₀ L s.heap m → (hd.heap_39 w.params).In h₀ → News h₀ L s.heap led → Top hd.view_39 (looseW hd.view_39 [Str.ofString "BasicError"]) mean mg mb h₀ → cs.kind = .function →
    dp + d < recursionLimit → un + u < cLine →
    (∀ (v : Value) (led' : Led) (h' : Heap) (tk' : Nat), R v led' → Fr h₀ L h' m → News h₀ L h' led' → Q v { s with heap := h', toks := tk' }) →
    wpAny (model PySem.Challenge.rw_xm0028_01.row.prog w) (ktrTop dp un gd cn cs L a ccd cl outer) (call (.ref f) vs) Q E s
abbrev spEs (w : World) (n fr : Int) (tf : Tok) (ao ah aw : Nat) (k : Nat → Tok) : List DictEntry :=
  [⟨PyData.keyHash w.params (Str.ofString "size"), .str (Str.ofString "size") (k 0), .int n (k 1)⟩,
   ⟨PyData.keyHash w.params (Str.ofString "octets"), .str (Str.ofString "octets") (k 2), .ref ao⟩,
   ⟨PyData.keyHash w.params (Str.ofString "low"), .str (Str.ofString "low") (k 3), .int 0 (k 4)⟩,
   ⟨PyData.keyHash w.params (Str.ofString "free"), .str (Str.ofString "free") (k 5), .int fr tf⟩,
   ⟨PyData.keyHash w.params (Str.ofString "held"), .str (Str.ofString "held") (k 6), .ref ah⟩,
   ⟨PyData.keyHash w.params (Str.ofString "waiting"), .str (Str.ofString "waiting") (k 7), .ref aw⟩,
   ⟨PyData.keyHash w.params (Str.ofString "most_waiting"), .str (Str.ofString "most_waiting") (k 8), .int n (k 9)⟩,
   ⟨PyData.keyHash w.params (Str.ofString "collections"), .str (Str.ofString "collections") (k 10), .int 0 (k 11)⟩]
/-- the space at x, its dict, its octets, its pile; then the rest -/
abbrev spLed (w : World) (n fr : Int) (tf : Tok) (x dx ao ah aw : Nat) (k : Nat → Tok) (octs : List Value) (no : Nat) (ws : List Value) (nw : Nat) (own : Led) : Led :=
  (x, instObj 54 dx) :: (dx, dictOf (spEs w n fr tf ao ah aw k) 8) :: (ao, listOf octs.toArray no) :: (aw, listOf ws.toArray nw) :: own
theorem allOff {own : Led} {b : Nat} (h : ∀ p ∈ own, p.1 < b) {d : Nat} (hd : b ≤ d) : ∀ p ∈ own, p.1 ≠ d := fun p hp => Nat.ne_of_lt (Nat.lt_of_lt_of_le (h p hp) hd)
theorem pick1 {octs : List Value} {i : Nat} {v : Value} (h : octs[i]? = some v) : (slicePick octs.toArray (some (i : Int)) (some ((i : Int) + 1)) none).toList = [v] := by
  have hi : i < octs.length := by
    rcases Nat.lt_or_ge i octs.length with h' | h'
    · exact h'
    · rw [List.getElem?_eq_none h'] at h; cases h
  have e : sliceBounds (some (i : Int)) (some ((i : Int) + 1)) none octs.toArray.size = ((i : Int), ((i + 1 : Nat) : Int), 1) := by
    simp only [sliceBounds, Option.getD_none, show (1 : Int) > 0 by decide, if_true, if_neg (show ¬ ((i : Int) < 0) by omega), if_neg (show ¬ ((i : Int) + 1 < 0) by omega), List.size_toArray]
    congr 1
    · omega
    · congr 1
      omega
  rw [kmk_pick_nat _ e]
  show (octs.drop i).take (i + 1 - i) = [v]
  rw [Nat.add_sub_cancel_left, List.drop_eq_getElem_cons hi]
  rw [List.getElem?_eq_getElem hi] at h
  simp [Option.some.inj h]
theorem join_sign {prog : Program} {w : World} {A : Around} {E : Value → Shared → Prop} {s : Shared} {h₀ : Heap} {L D : Addr} {t t1 : Tok} {n : Nat} {news : Led} {Q : Value → Shared → Prop} (N : News h₀ L s.heap news)
    (hm : (D, LCg.lst [Value.str ⟨#[n]⟩ t1]) ∈ news) (h : ∀ t' k, Q (.str ⟨#[n]⟩ t') { s with toks := k }) :
    wpAny (model prog w) A (call (.builtin "str.join") [.str (Str.ofString "") t, .ref D]) Q E s := by
  refine KT.join_1 (l := [n]) (g := fun a => ⟨#[a]⟩) (News.isList N hm) (.cons (.str _ _) .nil) (fun a _ => rfl) (by simp) ?_
  intro t' k' _
  exact h t' k'
/-- the walk halts here: the next step is by hand -/
def Stop (P : Prop) : Prop := P
theorem Stop.out {P : Prop} (h : Stop P) : P := h
/-- the post to a variable, nothing raised: what the walk carries gets small -/
theorem gen_wp {α : Type} {prog : Program} {w : World} {A : Around} {c : Sem α} {Q : α → Shared → Prop} {E : Value → Shared → Prop} {s : Shared}
    (h : ∀ Q9 : α → Shared → Prop, (∀ v s', Q9 v s' = Q v s') → wpAny (model prog w) A c Q9 (fun _ _ => False) s) : wpAny (model prog w) A c Q E s := wpAny_mono (h Q fun _ _ => rfl) (fun _ _ x => x) (fun _ _ x => x.elim)
end
local macro_rules | `(tactic| k_room) => `(tactic| ktr_room)
local macro_rules | `(tactic| k_units) => `(tactic| ktr_units)
local macro_rules | `(tactic| k_enter) => `(tactic| first
  | (refine' code_def ?k1 ?k2 ?k3 ?k4 ?k5 ?kA ?kF ?kK ?k6 ?k7 ?k8 ?k9 ?kB ?_ ?c2 ?c3 ?c4 ?c5; (case kA => exact rfl); (case kF => exact rfl); (case kK => first | exact rfl | assumption); (case k1 => k_asm); (case k2 => k_asm); (case k3 => k_asm); (case k4 => k_asm); (case k5 => k_asm); (case k6 => k_is); (case k7 => k_is); (case k8 => k_room); (case k9 => exact BindsTo.of_eq rfl); (case c5 => decide); (case kB => exact locs rfl); (case c2 => exact rfl); (case c3 => exact rfl); (case c4 => exact rfl); k_whole; intro g' L' h' FG' F' N' B' X' T'; (try dsimp only); (try k_lift B'); (try k_fold))
  | (refine' code_defC ?k1 ?k2 ?k3 ?k4 ?k5 ?kA ?kF ?kK ?k6 ?k7 ?k8 ?k9 ?kB ?kD ?_ ?c2 ?c3 ?c4; (case kA => exact rfl); (case kF => exact rfl); (case kK => first | exact rfl | assumption); (case k1 => k_asm); (case k2 => k_asm); (case k3 => k_asm); (case k4 => k_asm); (case k5 => k_asm); (case k6 => k_is); (case k7 => k_is); (case k8 => k_room); (case k9 => exact BindsTo.of_eq rfl); (case kB => exact rfl); (case kD => decide +kernel); (case c2 => exact rfl); (case c3 => exact rfl); (case c4 => exact rfl); k_whole; intro g' L' h' tk' cells' FG' F' N' Y' B' X' T' l1; (try k_lt l1); k_cells Y'; (try simp only [List.cons_append, List.nil_append] at N'); (try dsimp only); (try k_lift B'); (try k_fold)))
local macro_rules | `(tactic| k_all) => `(tactic| (refine allOff (by assumption) ?_; (try dsimp only); omega))
local macro_rules | `(tactic| walk_at "subscriptTail Name Slice ref ref") => `(tactic| (k_here; (with_reducible show wpAny _ _ (subscriptTail _ (PySem.Expr.Slice _ _ none _) (Value.ref _) (Value.ref _)) _ _ _); k_dflt (refine' kmk_slice_lit ?F ?N ?l ?p ?q ?e ?_ ?s ?t ?z; (case F => k_asm); (case N => k_asm); (case l => kmk_list); (case p => kmk_part); (case q => kmk_part); (case e => exact pick1 (by assumption)); (case s => with_unfolding_all rfl); (case t => kmk_pure); (case z => (simp only [List.size_toArray, PySem.sizeLine_eq]; omega))); intro D' h' F' N' l1; (try k_lt l1); (try k_sweep)))
local macro_rules | `(tactic| walk_at "call builtin:str.join") => `(tactic| (k_here; refine join_sign (by k_asm) (by k_mem) ?_; intro _ _))
local macro_rules | `(tactic| walk_at "CompEnd") => `(tactic| (k_here; refine LCg.CompEnd.intro (by assumption) (by assumption) _ (fun _ h9 => h9) (by first | assumption | (simp only [LCg.Off3, and_true]; assumption)) (by lcg_src) ?_))
local macro_rules | `(tactic| walk_at "eval ListComp") => `(tactic| (k_here; k_dflt (refine LCg.ListComp_U (F₀ := by k_asm) (by with_unfolding_all rfl) (by decide) (by rfl) (by decide) (by rfl) ?_)))
local macro_rules | `(tactic| walk_at "call builtin:list.pop") => `(tactic| (k_here; (with_reducible show wpAny _ _ (call (Value.builtin _) [Value.ref _]) _ _ _); k_dflt (refine' kl_pop ?F ?N ?e ?U ?z ?_; (case F => k_asm); (case N => k_asm); (case U => k_upd); (case e => exact kpa_last _ _); (case z => (simp only [List.length_append, List.length_cons, List.length_nil, PySem.sizeLine_eq]; omega))); kl_rest; (try k_sweep)))
local macro_rules | `(tactic| walk_at "call builtin:len") => `(tactic| (k_here; (with_reducible show wpAny _ _ (call (Value.builtin "len") [Value.ref _]) _ _ _); k_dflt (refine' kst_len ?k1 ?k2 ?k3 ?k4 ?_; (case k1 => k_asm); (case k2 => k_mem); (case k3 => exact rfl); (case k4 => omega); k_whole)))
section
set_option maxRecDepth 100000 in
set_option maxHeartbeats 8000000 in
theorem text_at_con (w : World) (mean : ExcName → Option Value) (mg mb : Str → Option Value) (n fr : Int) (tf : Tok) (x dx ao ah aw : Nat) (k : Nat → Tok) (octs : List Value) (no : Nat) (ws : List Value) (nw : Nat) (own : Led)
   (p : Nat) (i : Nat) (ti tj tc : Tok) (c np : Nat) (hz : octs.length ≤ 5) (hcc : c < 128) (hc : octs[i]? = some (.int c tc)) :
   Con w mean mg mb 68 1 8 (spLed w n fr tf x dx ao ah aw k octs no ws nw ((p, listOf #[.int i ti, .int 1 tj] np) :: own)) [.ref x, .ref p]
    (fun v led' => (∃ t, v = .str ⟨#[c]⟩ t) ∧ led' = spLed w n fr tf x dx ao ah aw k octs no ws nw ((p, listOf #[.int i ti, .int 1 tj] np) :: own)) := by
  unfold Con
  k_fill
  intro dp un gd cn cs a ccd cl outer A₀ base h₀ L m s Q E hB F X N T hk hd hu hret
  dsimp only [spLed] at N
  refine wpAny_call ?_
  k_dflt k_enter
  k_steps
  exact hret _ _ _ _ ⟨⟨_, rfl⟩, rfl⟩ (by k_asm) (by refine' cb_drop ?n9 ?s9; (case n9 => assumption); (case s9 => exact fun p9 h9 => .tail _ (.tail _ h9)))
end
section
local macro_rules | `(tactic| walk_at "call ref") => `(tactic| (k_here; (with_reducible show wpAny _ _ (call (Value.ref 68) [Value.ref _, Value.ref _]) _ _ _); k_dflt (refine' text_at_con _ _ _ _ _ _ _ _ _ _ _ _ _ _ _ _ _ _ _ _ _ _ _ _ _ ?hz ?hcc ?hc _ _ _ _ _ _ _ _ _ _ _ _ _ _ _ _ _ ?k1 ?k2 ?k3 ?k4 ?k5 ?kK ?kd ?ku ?kR; (case k1 => k_asm); (case k2 => k_asm); (case k3 => k_asm); (case k4 => k_asm); (case k5 => k_asm); (case kK => first | exact rfl | assumption); (case hz => first | assumption | omega); (case hcc => assumption); (case hc => assumption); (case kd => ktr_room); (case ku => ktr_units); k_whole); intro v9 led9 h9 tk9 r9 F9 N9; obtain ⟨⟨t9, e9⟩, e9'⟩ := r9; subst e9 e9'; (try dsimp only [spLed] at N9); (try dsimp only); (try k_sweep)))
set_option maxRecDepth 100000 in
set_option maxHeartbeats 8000000 in
theorem pop_con (w : World) (mean : ExcName → Option Value) (mg mb : Str → Option Value) (n : Int) (f : Nat) (tf : Tok) (x dx ao ah aw : Nat) (k : Nat → Tok) (octs : List Value) (no : Nat) (ws : List Value) (nw : Nat) (own : Led)
   (p : Nat) (ti tj tc : Tok) (c np : Nat) (hz : octs.length ≤ 5) (hcc : c < 128) (hc : octs[f]? = some (.int c tc)) (hw : ws.length ≤ 5)
   (o1 : dx < x) (o2 : x < ao) (o3 : ao < aw) (o4 : aw < p) (ho : OwnOff own [x, dx, ao, aw]) :
   Con w mean mg mb 127 3 40 (spLed w n f tf x dx ao ah aw k octs no (ws ++ [.ref p]) nw ((p, listOf #[.int f ti, .int 1 tj] np) :: own)) [.ref x]
    (fun v led' => ∃ t tf' nw', v = .str ⟨#[c]⟩ t ∧ led' = spLed w n (f + 1) tf' x dx ao ah aw k octs no ws nw' ((p, listOf #[.int f ti, .int 1 tj] np) :: own)) := by
  unfold Con
  k_fill
  intro dp un gd cn cs a ccd cl outer A₀ base h₀ L m s Q E hB F X N T hk hd hu hret
  dsimp only [spLed] at N
  refine wpAny_call ?_
  k_dflt k_enter
  k_steps
  · exact hret _ _ _ _ ⟨_, _, _, rfl, rfl⟩ (by k_asm) (by k_asm)
  · exact absurd rfl (by assumption)
  · rename ¬ (0 : Int) < _ => hn0
    exact absurd (show (0 : Int) < 1 by decide) hn0
end
section
/-- where a comprehension over a text of signs below 128 starts -/
def SrcS (prog : Program) (w : World) (A : Around) (h₀ : Heap) (L : Addr) (m : Str → Option Value) (env : Env) (elt : Expr) (x : Str) (scope : Scope) (cl : List (Str × Addr)) (Fin : Shared → List Value → Led → Prop) (xv : Value) (s₁ : Shared) : Prop :=
  ∃ xt tx news, xv = .str xt tx ∧ (xt.cps.all (· < 128)) = true ∧ A.handled = none ∧ Fr h₀ L s₁.heap m ∧ News h₀ L s₁.heap news ∧ xt.cps.size ≤ sizeLine ∧
    ∀ g, LCg.CompRest prog w A h₀ L m env elt x scope cl { s₁ with heap := g } (fun _ => True) (SignAt xt) (Fin { s₁ with heap := g }) xt.cps.size 0 [] news
theorem SrcS.mk {prog : Program} {w : World} {A : Around} {h₀ : Heap} {L : Addr} {m : Str → Option Value} {env : Env} {elt : Expr} {x : Str} {scope : Scope} {cl : List (Str × Addr)} {Fin : Shared → List Value → Led → Prop} {xt : Str} {tx : Tok} {s₁ : Shared} {news : Led}
    (ha : (xt.cps.all (· < 128)) = true) (hh : A.handled = none) (F : Fr h₀ L s₁.heap m) (N : News h₀ L s₁.heap news) (hz : xt.cps.size ≤ sizeLine)
    (h : ∀ g, LCg.CompRest prog w A h₀ L m env elt x scope cl { s₁ with heap := g } (fun _ => True) (SignAt xt) (Fin { s₁ with heap := g }) xt.cps.size 0 [] news) :
    SrcS prog w A h₀ L m env elt x scope cl Fin (.str xt tx) s₁ := ⟨xt, tx, news, rfl, ha, hh, F, N, hz, h⟩
theorem ListComp_text {prog : Program} {w : World} {A : Around} {E : Value → Shared → Prop} {s : Shared} {h₀ : Heap} {L : Addr} {m : Str → Option Value} {env : Env} {elt iter : Expr} {x : Str} {px : Pos} {scope : Scope} {cl : List (Str × Addr)} {pos : Pos} {Q : Value → Shared → Prop}
    (_F₀ : Fr h₀ L s.heap m) (hclos : closureFor scope env = pure cl) (hcell : ∀ y ∈ scope.names, y.2 ≠ .cell) (hkind : scope.kind = .function)
    (hnames : ∀ y ∈ scope.names, y.2 = .local → scope.names.lookup y.1 = some .local) (hx : scope.names.lookup x = some .local)
    (h : wpAny (model prog w) A (eval iter env) (SrcS prog w A h₀ L m env elt x scope cl (fun s₂ => LCg.FinE h₀ L m s₂ Q)) E s)
    (hs : ∀ x, foldedSetIterable iter env x = pure x := by intro _; rfl) :
    wpAny (model prog w) A (eval (.ListComp elt [⟨.Name x px, iter, [], 0⟩] scope pos) env) Q E s := by
  rw [eval_ListComp]
  refine wpAny_comprehension_free (use := none) rfl hs hclos hkind hnames (wpAny_mono h (fun xv s₁ h₁ => ?_) fun _ _ e => e)
  obtain ⟨xt, tx, news, rfl, ha, hh, F, N, hsz, R⟩ := h₁
  refine wpAny_pyIter_ascii ha ?_
  have up : ∀ b o, s₁.heap.get? b = some o → (s₁.heap.push { cls := .type "str_ascii_iterator", data := .fields #[.str xt tx, .int 0 0] }).get? b = some o := fun b o e => Heap.get?_push_of_some _ e
  refine LCg.block_U (Walks.strAscii hh s₁.heap.objs.size xt tx) hsz (fun i h st => by obtain ⟨o, e, _⟩ := st; exact ⟨o, e⟩)
    (fun i h h' o nw st e e' _ _ _ => by obtain ⟨o', q, r⟩ := st; rw [e] at q; cases q; exact ⟨o, e', r⟩) hcell hkind hx ⟨_, Heap.get?_push_size _ rfl, rfl, rfl⟩ (fun b hb => ?_)
    (F.keeps up) (N.grown up) (Nat.ne_of_lt F.ns.lt) (next_is_new F) (fun p hp => Nat.ne_of_lt (Heap.lt_size (N p hp).1)) trivial (R _) ?_
  · show b < (s₁.heap.push _).objs.size
    rw [Heap.size_push, List.mem_singleton.mp hb]
    exact Nat.lt_succ_self _
  · intro D C h tk m' ys news' F' N' o1 hn hC₀ hD₀ hCL hDL hCD offC fin
    refine ⟨m', hn, fun h'' hs'' => fin D h'' tk (F'.change hs'' hCL hC₀) (fun p hp => ?_) o1⟩
    refine ⟨hs''.extBut _ _ ?_ (N' p hp).1, (N' p hp).2⟩
    rcases List.mem_cons.mp hp with rfl | hp
    · exact Ne.symm hCD
    · exact offC p hp
theorem off1_mem {D : Nat} : ∀ {l : Led}, LCg.Off1 D l → ∀ q ∈ l, @Ne Nat q.1 D
  | [], _, _, h => nomatch h
  | _ :: _, x, q, h => by
    rcases List.mem_cons.mp h with rfl | h
    · exact x.1
    · exact off1_mem x.2 q h
theorem sign_one {c c' i : Nat} (h : (⟨#[c]⟩ : Str).cps[0]? = some c') (_ : i = 0) : c = c' := by simpa using h
end
section
local macro_rules | `(tactic| walk_at "eval ListComp") => `(tactic| (k_here; (with_reducible show wpAny _ _ (eval (Expr.ListComp (Expr.Call (Expr.Name (Str.ofString "ord") _) _ _ _) _ _ _) _) _ _ _); k_dflt (refine ListComp_text (by k_asm) (by with_unfolding_all rfl) (by decide) (by rfl) (by decide) (by rfl) ?_)))
local macro_rules | `(tactic| walk_at "SrcS") => `(tactic| (k_here; refine SrcS.mk (by simp; assumption) (by rfl) (by k_asm) (by k_asm) (Nat.le_of_ble_eq_true rfl) ?_; intro g'; lcg_lit))
local macro_rules | `(tactic| walk_at "CompRest") => `(tactic| (k_here; refine LCg.CompRest.succ ?_; intro v' I' oI' C' oC' D' m' h' tk' E' hv' hC' hx' F' N' off' ne'; obtain ⟨c9, u9, hc9, hv9⟩ := hv'; (have e9 := sign_one hc9 rfl); subst e9; subst hv9; (try simp only [LCg.Off3, and_true] at off')))
set_option maxRecDepth 100000 in
set_option maxHeartbeats 8000000 in
theorem octets_con (w : World) (mean : ExcName → Option Value) (mg mb : Str → Option Value) (led : Led) (tt : Tok) (c : Nat) (hcc : c < 128) :
   Con w mean mg mb 63 1 8 led [.str ⟨#[c]⟩ tt]
    (fun v led' => ∃ (D : Nat) (tc : Tok), v = .ref D ∧ led' = (D, listOf #[.int c tc] 1) :: led ∧ ∀ q ∈ led, @Ne Nat q.1 D) := by
  unfold Con
  k_fill
  intro dp un gd cn cs a ccd cl outer A₀ base h₀ L m s Q E hB F X N T hk hd hu hret
  refine wpAny_call ?_
  k_dflt k_enter
  k_steps
  rename LCg.Off1 _ _ => hO
  exact hret _ _ _ _ ⟨_, _, rfl, rfl, off1_mem hO⟩ (by k_asm) (by k_asm)
end
section
local macro_rules | `(tactic| walk_at "call ref") => `(tactic| (k_here; (with_reducible show wpAny _ _ (call (Value.ref 68) [Value.ref _, Value.ref _]) _ _ _); k_dflt (refine' text_at_con _ _ _ _ _ _ _ _ _ _ _ _ _ _ _ _ _ _ _ _ _ _ _ _ _ ?hz ?hcc ?hc _ _ _ _ _ _ _ _ _ _ _ _ _ _ _ _ _ ?k1 ?k2 ?k3 ?k4 ?k5 ?kK ?kd ?ku ?kR; (case k1 => k_asm); (case k2 => k_asm); (case k3 => k_asm); (case k4 => k_asm); (case k5 => k_asm); (case kK => first | exact rfl | assumption); (case hz => first | assumption | omega); (case hcc => assumption); (case hc => assumption); (case kd => ktr_room); (case ku => ktr_units); k_whole); intro v9 led9 h9 tk9 r9 F9 N9; obtain ⟨⟨t9, e9⟩, e9'⟩ := r9; subst e9 e9'; (try dsimp only [spLed] at N9); (try dsimp only); (try k_sweep)))
local macro_rules | `(tactic| walk_at "eval ListComp") => `(tactic| (k_here; (with_reducible show wpAny _ _ (eval (Expr.ListComp (Expr.Call (Expr.Name (Str.ofString "ord") _) _ _ _) _ _ _) _) _ _ _); k_dflt (refine ListComp_text (by k_asm) (by with_unfolding_all rfl) (by decide) (by rfl) (by decide) (by rfl) ?_)))
local macro_rules | `(tactic| walk_at "SrcS") => `(tactic| (k_here; refine SrcS.mk (by simp; assumption) (by rfl) (by k_asm) (by k_asm) (Nat.le_of_ble_eq_true rfl) ?_; intro g'; lcg_lit))
local macro_rules | `(tactic| walk_at "CompRest") => `(tactic| (k_here; refine LCg.CompRest.succ ?_; intro v' I' oI' C' oC' D' m' h' tk' E' hv' hC' hx' F' N' off' ne'; obtain ⟨c9, u9, hc9, hv9⟩ := hv'; (have e9 := sign_one hc9 rfl); subst e9; subst hv9; (try simp only [LCg.Off3, and_true] at off')))
local macro_rules | `(tactic| walk_at "call ref") => `(tactic| (k_here; (with_reducible show wpAny _ _ (call (Value.ref 63) [Value.str _ _]) _ _ _); k_dflt (refine' octets_con _ _ _ _ _ _ _ ?hcc _ _ _ _ _ _ _ _ _ _ _ _ _ _ _ _ _ ?k1 ?k2 ?k3 ?k4 ?k5 ?kK ?kd ?ku ?kR; (case k1 => k_asm); (case k2 => k_asm); (case k3 => k_asm); (case k4 => k_asm); (case k5 => k_asm); (case kK => first | exact rfl | assumption); (case hcc => assumption); (case kd => ktr_room); (case ku => ktr_units); k_whole); intro v9 led9 h9 tk9 r9 F9 N9; obtain ⟨D9, t9, e9, e9', o9⟩ := r9; subst e9 e9'; (simp only [List.forall_mem_cons] at o9); (try dsimp only); (try k_sweep)))
theorem offW_of {I : Nat} {o1 o2 : Obj} : ∀ {l : Led}, (∀ p ∈ l, @LT.lt Nat _ p.1 I) → OffW [((I + 1 : Nat), o1), (I, o2)] l
  | [], _ => trivial
  | p :: r, h => ⟨⟨.inl (Nat.ne_of_lt (Nat.lt_succ_of_lt (h p (.head _)))), .inl (Nat.ne_of_lt (h p (.head _))), trivial⟩, offW_of fun q hq => h q (.tail _ hq)⟩
theorem subL_of {l l' : Led} : (∀ p ∈ l, p ∈ l') → SubL l l' := by
  intro h
  induction l with
  | nil => exact trivial
  | cons p r ih => exact ⟨h p (.head _), ih fun q hq => h q (.tail _ hq)⟩
local macro_rules | `(tactic| walk_at "exec For Tuple Call cons nil") => `(tactic| (k_here; (rename Fr _ _ _ _ => lF'); (with_unfolding_all refine' For_turns lF' ?_; k_whole)))
local macro_rules | `(tactic| walk_at "call type:enumerate") => `(tactic| (k_here; (rename Fr _ _ _ _ => lF'); (with_unfolding_all refine' ktu_enum (vs := [_]) (by rfl) lF' ?N ?m ?c ?d rfl ?_; (case N => k_asm); (case m => k_mem); (case c => rfl); (case d => rfl)); clear lF'; intro i' l1; (try k_lt l1)))
local macro_rules | `(tactic| walk_at "setItem ref int") => `(tactic| (k_here; (with_reducible show wpAny _ _ (setItem (Value.ref _) (Value.int _ _) (Value.int _ _)) _ _ _); k_dflt (refine' ksa_set ?k1 ?k2 ?k3 ?k4 ?k5 ?k6 ?k7 ?_; (case k1 => k_asm); (case k2 => k_asm); (case k3 => k_upd); (case k4 => with_reducible assumption); (case k5 => omega); (case k6 => omega); (case k7 => omega); k_whole); intro h' F' N' hi' hl' hs'; (try k_sweep)))
local macro_rules | `(tactic| walk_at "UnrEndW") => `(tactic| (k_here; refine UnrEndW.intro (by assumption) (by k_asm) _ ⟨by k_mem, by k_mem, trivial⟩ (subL_of (fun _ hp => .tail _ (.tail _ hp))) (offW_of (kst_ltOf (by simp only [AllLt, and_true]; assumption))) ⟨⟨by k_mem, trivial⟩, ?_⟩))
set_option maxRecDepth 100000 in
set_option maxHeartbeats 8000000 in
theorem wroct_con (w : World) (mean : ExcName → Option Value) (mg mb : Str → Option Value) (n fr : Int) (tf : Tok) (x dx ao ah aw : Nat) (k : Nat → Tok) (octs : List Value) (ns : List Int) (no : Nat) (ws : List Value) (nw : Nat) (own : Led)
   (D : Nat) (nd : Nat) (g : Int) (c : Nat) (tg tc : Tok) (hI : IntsAre octs ns) (hz : ns.length ≤ 5) (hg : 0 ≤ g) (hf : g < (ns.length : Int))
   (o1 : dx < x) (o2 : x < ao) (o3 : ao < aw) (o4 : @Ne Nat ao D) (ho : OwnOff own [x, dx, ao, aw]) :
   Con w mean mg mb 75 1 8 ((D, listOf #[.int c tc] nd) :: spLed w n fr tf x dx ao ah aw k octs no ws nw own) [.ref x, .int g tg, .ref D]
    (fun v led' => v = .none ∧ ∃ octs', IntsAre octs' (ns.set g.toNat c) ∧ led' = (D, listOf #[.int c tc] nd) :: spLed w n fr tf x dx ao ah aw k octs' no ws nw own) := by
  unfold Con
  k_fill
  intro dp un gd cn cs a ccd cl outer A₀ base h₀ L m s Q E hB F X N T hk hd hu hret
  dsimp only [spLed] at N
  refine wpAny_call ?_
  k_dflt k_enter
  k_steps
  refine hret _ _ _ _ ⟨rfl, _, ?_, rfl⟩ (by k_asm) (by k_asm)
  have e : (g + ((0 : Nat) : Int)).toNat = g.toNat := by omega
  rw [e]
  exact ints_set hI _
end
section
local macro_rules | `(tactic| walk_at "call ref") => `(tactic| (k_here; (with_reducible show wpAny _ _ (call (Value.ref 68) [Value.ref _, Value.ref _]) _ _ _); k_dflt (refine' text_at_con _ _ _ _ _ _ _ _ _ _ _ _ _ _ _ _ _ _ _ _ _ _ _ _ _ ?hz ?hcc ?hc _ _ _ _ _ _ _ _ _ _ _ _ _ _ _ _ _ ?k1 ?k2 ?k3 ?k4 ?k5 ?kK ?kd ?ku ?kR; (case k1 => k_asm); (case k2 => k_asm); (case k3 => k_asm); (case k4 => k_asm); (case k5 => k_asm); (case kK => first | exact rfl | assumption); (case hz => first | assumption | omega); (case hcc => assumption); (case hc => assumption); (case kd => ktr_room); (case ku => ktr_units); k_whole); intro v9 led9 h9 tk9 r9 F9 N9; obtain ⟨⟨t9, e9⟩, e9'⟩ := r9; subst e9 e9'; (try dsimp only [spLed] at N9); (try dsimp only); (try k_sweep)))
local macro_rules | `(tactic| walk_at "eval ListComp") => `(tactic| (k_here; (with_reducible show wpAny _ _ (eval (Expr.ListComp (Expr.Call (Expr.Name (Str.ofString "ord") _) _ _ _) _ _ _) _) _ _ _); k_dflt (refine ListComp_text (by k_asm) (by with_unfolding_all rfl) (by decide) (by rfl) (by decide) (by rfl) ?_)))
local macro_rules | `(tactic| walk_at "SrcS") => `(tactic| (k_here; refine SrcS.mk (by simp; assumption) (by rfl) (by k_asm) (by k_asm) (Nat.le_of_ble_eq_true rfl) ?_; intro g'; lcg_lit))
local macro_rules | `(tactic| walk_at "CompRest") => `(tactic| (k_here; refine LCg.CompRest.succ ?_; intro v' I' oI' C' oC' D' m' h' tk' E' hv' hC' hx' F' N' off' ne'; obtain ⟨c9, u9, hc9, hv9⟩ := hv'; (have e9 := sign_one hc9 rfl); subst e9; subst hv9; (try simp only [LCg.Off3, and_true] at off')))
local macro_rules | `(tactic| walk_at "call ref") => `(tactic| (k_here; (with_reducible show wpAny _ _ (call (Value.ref 63) [Value.str _ _]) _ _ _); k_dflt (refine' octets_con _ _ _ _ _ _ _ ?hcc _ _ _ _ _ _ _ _ _ _ _ _ _ _ _ _ _ ?k1 ?k2 ?k3 ?k4 ?k5 ?kK ?kd ?ku ?kR; (case k1 => k_asm); (case k2 => k_asm); (case k3 => k_asm); (case k4 => k_asm); (case k5 => k_asm); (case kK => first | exact rfl | assumption); (case hcc => assumption); (case kd => ktr_room); (case ku => ktr_units); k_whole); intro v9 led9 h9 tk9 r9 F9 N9; obtain ⟨D9, t9, e9, e9', o9⟩ := r9; subst e9 e9'; (simp only [List.forall_mem_cons] at o9); (try dsimp only); (try k_sweep)))
section
local macro_rules | `(tactic| walk_at "call ref") => `(tactic| (k_here; (with_reducible show wpAny _ _ (call (Value.ref 75) _) _ _ _); refine Stop.out ?_))
set_option maxRecDepth 100000 in
set_option maxHeartbeats 8000000 in
theorem push_con (w : World) (mean : ExcName → Option Value) (mg mb : Str → Option Value) (n : Int) (f : Nat) (tf : Tok) (x dx ao ah aw : Nat) (k : Nat → Tok) (octs : List Value) (no : Nat) (ws : List Value) (nw : Nat) (own : Led)
   (tt : Tok) (c : Nat) (ns : List Int) (hI : IntsAre octs ns) (hz : ns.length ≤ 5) (hcc : c < 128) (hf : f < ns.length) (hw : (ws.length : Int) < n) (hn : n ≤ 5)
   (o1 : dx < x) (o2 : x < ao) (o3 : ao < aw) (ho : OwnOff own [x, dx, ao, aw]) :
   Con w mean mg mb 120 6 90 (spLed w n ((f : Int) + 1) tf x dx ao ah aw k octs no ws nw own) [.ref x, .str ⟨#[c]⟩ tt]
    (fun v led' => v = .none ∧ ∃ (p : Nat) (ti tj tf' : Tok) (octs' : List Value) (nw' : Nat), IntsAre octs' (ns.set f c) ∧ led' = spLed w n f tf' x dx ao ah aw k octs' no (ws ++ [.ref p]) nw' ((p, listOf #[.int f ti, .int 1 tj] 0) :: own) ∧ aw < p ∧ ∀ q ∈ own, @LT.lt Nat _ q.1 p) := by
  unfold Con
  k_fill
  intro dp un gd cn cs a ccd cl outer A₀ base h₀ L m s Q E hB F X N T hk hd hu hret
  dsimp only [spLed] at N
  refine wpAny_call ?_
  k_dflt k_enter
  have hMark := kstMark
  k_steps
  unfold Stop
  refine' wroct_con _ _ _ _ _ _ _ _ _ _ _ _ _ _ _ _ _ _ _ _ _ _ _ _ _ ?hI ?hz ?hg ?hf ?o1 ?o2 ?o3 ?o4 ?ho _ _ _ _ _ _ _ _ _ _ _ _ _ _ _ _ _ ?k1 ?k2 ?k3 ?k4 ?k5 ?kK ?kd ?ku ?kR
  (case k1 => k_asm); (case k2 => k_asm); (case k3 => k_asm); (case k4 => k_asm); (case k5 => k_asm); (case kK => first | exact rfl | assumption)
  (case hI => assumption); (case hz => omega); (case hg => omega); (case hf => omega); (case o1 => omega); (case o2 => omega); (case o3 => omega); (case o4 => omega); (case ho => assumption); (case kd => ktr_room); (case ku => ktr_units)
  intro v9 led9 h9 tk9 r9 F9 N9
  obtain ⟨e9, oc9, i9, e9'⟩ := r9
  subst e9 e9'
  dsimp only [spLed] at N9
  (try dsimp only)
  (try k_sweep)
  k_steps
  rename _ ∧ _ ∧ _ ∧ _ ∧ _ ∧ AllLt _ own => hz9
  rename News h₀ L _ _ => kN9
  have e : (f : Int) + 1 - ((1 : Nat) : Int) = (f : Int) := by omega
  rw [e, Int.toNat_natCast] at i9
  rw [e] at kN9
  simp only [List.push_toArray] at kN9
  exact hret _ _ _ _ ⟨rfl, _, _, _, _, oc9, _, i9, rfl, hz9.2.2.2.2.1, kst_ltOf hz9.2.2.2.2.2⟩ (by k_asm) (fun p9 h9 => kN9 p9 (by
    rcases List.mem_cons.mp h9 with rfl | h9
    · exact .tail _ (.tail _ (.head _))
    rcases List.mem_cons.mp h9 with rfl | h9
    · exact .tail _ (.tail _ (.tail _ (.head _)))
    rcases List.mem_cons.mp h9 with rfl | h9
    · exact .tail _ (.tail _ (.tail _ (.tail _ (.head _))))
    rcases List.mem_cons.mp h9 with rfl | h9
    · exact .tail _ (.tail _ (.tail _ (.tail _ (.tail _ (.head _)))))
    rcases List.mem_cons.mp h9 with rfl | h9
    · exact .head _
    exact .tail _ (.tail _ (.tail _ (.tail _ (.tail _ (.tail _ h9)))))))
end
end
section
section
variable {prog : Program} {w : World} {A : Around} {E : Value → Shared → Prop} {s : Shared} {env : Env} {h₀ : Heap} {x : Str} {body : List Stmt} {Q : Flow → Shared → Prop}
/-- a loop over a text of signs below 128 whose turns may make objects that stay -/
theorem iter_textG {xt : Str} {tx : Tok} {m₀ : Str → Option Value} {news : Led} (J : Nat → (Str → Option Value) → Led → Prop) (ha : (xt.cps.all (· < 128)) = true)
    (hh : A.handled = none) (F : Fr h₀ env.locals s.heap m₀) (N : News h₀ env.locals s.heap news) (hj : J 0 m₀ news)
    (turn : ∀ i c u m₁ news₁ h tk own, xt.cps[i]? = some c → OwnOff own (news₁.map (·.1)) → J i m₁ news₁ → Fr h₀ env.locals h (fun y => if y = x then some (.str ⟨#[c]⟩ u) else m₁ y) → News h₀ env.locals h (news₁ ++ own) →
      wpAny (model prog w) A (execs body env) (InvPostG h₀ env.locals (J (i + 1)) own { s with heap := h, toks := tk } Q) E { s with heap := h, toks := tk })
    (done : ∀ m₁ news₁ h tk, J xt.cps.size m₁ news₁ → Fr h₀ env.locals h m₁ → News h₀ env.locals h news₁ → Q .next { s with heap := h, toks := tk }) :
    wpAny (model prog w) A (pyIter (.str xt tx)) (fun it s₂ => LoopAtV prog w A h₀ env x body Q E it s₂) E s := by
  refine wpAny_pyIter_ascii ha ?_
  have hI0 : h₀.get? s.heap.objs.size = none := next_is_new F
  refine ⟨_, _, _, _, _, _, m₀, news, J, rfl, Walks.strAscii hh s.heap.objs.size xt tx, ?_, ?_, ?_, ⟨_, Heap.get?_push_size _ rfl, rfl, rfl⟩, F.push _, (fun p hp => ⟨Heap.get?_push_of_some _ (N p hp).1, (N p hp).2⟩), hj, ?_, ?_⟩
  · intro hm
    exact absurd F.ns.lt ((List.mem_singleton.mp hm) ▸ Nat.lt_irrefl _)
  · intro b hb
    rw [List.mem_singleton.mp hb]
    exact hI0
  · intro p hp hI
    exact absurd (Heap.lt_size (N p hp).1) ((List.mem_singleton.mp hI) ▸ Nat.lt_irrefl _)
  · rintro i v m₁ news₁ s₁ own ⟨hh', tk', rfl⟩ hin hP hJ hoff hown hget hfp hst F₁ N₁
    obtain ⟨oI, hoI, _⟩ := id hst
    have hIown : ((s.heap.objs.size : Addr), oI) ∈ own := hfp _ (List.mem_singleton.mpr rfl) hI0 _ hoI
    have hsep : OwnOff own (news₁.map (·.1)) := by
      intro p hp b hb e
      obtain ⟨q, hq, rfl⟩ := List.mem_map.mp hb
      exact hoff q hq (e ▸ hown p hp)
    have N₂ : News h₀ env.locals hh' (news₁ ++ own) := fun p hp => N₁ p ((List.mem_append.mp hp).elim (fun h => List.mem_append.mpr (.inr h)) fun h => List.mem_append.mpr (.inl h))
    obtain ⟨c, u, hc, rfl⟩ := hP
    refine wpAny_mono (turn i c u m₁ news₁ hh' tk' own hc hsep hJ F₁ N₂) (fun f s₂ p => ?_) fun _ _ e => e
    have fin : InvEndG h₀ env.locals (J (i + 1)) own { s with heap := hh', toks := tk' } s₂ → LoopStepU h₀ env.locals [s.heap.objs.size] own (J (i + 1)) { s with heap := hh', toks := tk' } .next s₂ := by
      rintro ⟨h', tk, m', news', nx, e, F', N', hn, ho, ha, hm⟩
      refine ⟨rfl, h', tk, m', nx, e, F', fun p hp => N' p ((List.mem_append.mp hp).elim (ho p) (hn p)), fun p hp hq => ?_, hm⟩
      exact ha _ hIown p.1 (List.mem_map.mpr ⟨p, hp, rfl⟩) (List.mem_singleton.mp hq).symm
    cases f with
    | ret v => exact .ret p
    | brk => exact .brk p
    | next => exact .next (fin p)
    | cont => exact .cont (fin p)
  · rintro h' tk m' news' F' N' _ hJ
    exact done m' news' h' tk hJ F' N'
end
section
variable {prog : Program} {w : World} {A : Around} {E : Value → Shared → Prop} {s : Shared} {h₀ : Heap} {L : Addr} {m : Str → Option Value} {env : Env} {news : Led}
/-- two lists of unlike lengths are unlike -/
theorem ne_len {a b : Addr} {xs ys : Array Value} {n n2 : Nat} {Q : Value → Shared → Prop} (ha : s.heap.get? a = some (listOf xs n)) (hb : s.heap.get? b = some (listOf ys n2)) (hne : (xs.size != ys.size) = true) (hu : A.units < cLine) (h : Q (.bool true) s) :
    wpAny (model prog w) A (compareOp .NotEq (.ref a) (.ref b)) Q E s :=
  cmp_ofNotEq (richCompare_meets_room ⟨_, ha, rfl⟩ ⟨_, hb, rfl⟩ PySem.F.slot_list_ne PySem.F.entry_list_ne (PySem.F.args_list_ne_2 _ _) (PySem.SeqAt.list_ne_lengthsAt a b xs ys n n2 none none #[] #[] hne) ⟨ha, hb, by exact ⟨by simp, h⟩⟩ hu)
theorem strs_snoc9 {y : Str} {t : Tok} : ∀ {vs : List Value} {ys : List Str}, StrsAre vs ys → StrsAre (vs ++ [.str y t]) (ys ++ [y])
  | _, _, .nil => .cons y t .nil
  | _, _, .cons z u r => .cons z u (strs_snoc9 r)
/-- a comprehension whose elements are texts of one sign -/
theorem comp_signs {elt : Expr} {x : Str} {scope : Scope} {cl : List (Str × Addr)} {S : Led → Prop} {P : Nat → Value → Prop} {Fin : List Value → Led → Prop} (st : List Nat)
    (turn : ∀ i c v I oI C oC D m₂ ys h tk (E' : Value → Shared → Prop), st[i]? = some c → P i v → LCg.NsObj oC m₂ → m₂ x = some v → Fr h₀ L h m → News h₀ L h ((I, oI) :: (C, oC) :: (D, LCg.lst ys) :: news) → LCg.Off3 I C D news → ((@Ne Nat I C) ∧ (@Ne Nat I D) ∧ (@Ne Nat C D)) →
      wpAny (model prog w) A (eval elt (compEnvC scope cl C env)) (LCg.CompEnd h₀ L m { s with heap := h, toks := tk } I oI C oC D (LCg.lst ys) S (fun y news' => news' = news ∧ ∃ t : Tok, y = .str ⟨#[c]⟩ t)) E' { s with heap := h, toks := tk })
    (fin : ∀ ys, StrsAre ys (st.map fun c => (⟨#[c]⟩ : Str)) → Fin ys news) : LCg.CompRest prog w A h₀ L m env elt x scope cl s S P Fin st.length 0 [] news := by
  have key : ∀ (j i : Nat) (ys : List Value), i + j = st.length → StrsAre ys ((st.take i).map fun c => (⟨#[c]⟩ : Str)) → LCg.CompRest prog w A h₀ L m env elt x scope cl s S P Fin j i ys news := by
    intro j
    induction j with
    | zero =>
      intro i ys hi hy
      have e : i = st.length := by omega
      subst e
      rw [List.take_length] at hy
      exact LCg.CompRest.zero (fin ys hy)
    | succ j ih =>
      intro i ys hi hy
      refine LCg.CompRest.succ ?_
      intro v I oI C oC D m₂ h tk E' hv hC hx F N off ne
      have hlt : i < st.length := by omega
      have hk : st[i]? = some st[i] := List.getElem?_eq_getElem hlt
      refine wpAny_mono (turn i st[i] v I oI C oC D m₂ ys h tk E' hk hv hC hx F N off ne) (fun y s₂ hq => ?_) fun _ _ e => e
      obtain ⟨h', tk', nw, e, F', N', off', hS, hn, t', hy'⟩ := hq
      rw [hn] at N' off' hS
      refine ⟨h', tk', news, e, F', N', off', hS, ?_⟩
      rw [hy']
      dsimp only
      refine ih (i + 1) _ (by omega) ?_
      have e9 : (st.take (i + 1)).map (fun c => (⟨#[c]⟩ : Str)) = (st.take i).map (fun c => (⟨#[c]⟩ : Str)) ++ [⟨#[st[i]]⟩] := by
        rw [List.take_add_one, hk, List.map_append]
        rfl
      rw [e9]
      exact strs_snoc9 hy
  exact key st.length 0 [] (by omega) (by simp only [List.take_zero, List.map_nil]; exact .nil)
end
section
variable {prog : Program} {w : World} {A : Around} {E : Value → Shared → Prop} {s : Shared} {h₀ : Heap} {L : Addr} {news : Led}
/-- the last item of a list -/
theorem last_item {value slice : Expr} {a : Addr} {ws : List Value} {v : Value} {n : Nat} {k : Int} {u : Tok} {Q : Value → Shared → Prop} (N : News h₀ L s.heap news) (hm : (a, listOf (ws ++ [v]).toArray n) ∈ news) (hk : k = -1) (h : Q v s)
    (hs : subscripted slice false (.ref a) (.int k u) = operate [.ref a, .int k u] (getItem (.ref a) (.int k u))) (hg : ∀ r, letTemporaryGo value (.ref a) r = pure ()) :
    wpAny (model prog w) A (subscriptTail value slice (.ref a) (.int k u)) Q E s := by
  subst hk
  refine kim_back N hm rfl rfl (by decide) (by simp only [List.length_append, List.length_cons, List.length_nil]; omega) (by decide) ?_ h hs hg
  have e : (-1 + ((ws ++ [v]).length : Int)).toNat = ws.length := by simp only [List.length_append, List.length_cons, List.length_nil]; omega
  rw [e]
  simp
end
end
section
/-- the pile's plain reckoning: the signs bottom to top, and what has come out -/
def popOnce (c : Nat) (q : List Nat × List Nat) : List Nat × List Nat :=
  match q.1.getLast? with
  | some t => if t < c then (q.1.dropLast, q.2 ++ [t]) else q
  | none => q
def popK (c : Nat) : Nat → List Nat × List Nat → List Nat × List Nat
  | 0, q => q
  | k + 1, q => popK c k (popOnce c q)
def stepF (n : Nat) (q : List Nat × List Nat) (c : Nat) : List Nat × List Nat := ((popK c n q).1 ++ [c], (popK c n q).2)
def throughL (l : List Nat) : List Nat := (l.foldl (stepF l.length) ([], [])).2 ++ (l.foldl (stepF l.length) ([], [])).1.reverse
def throughF (x : Str) : Str := ⟨(throughL x.cps.toList).toArray⟩
theorem fold_popK (c : Nat) : ∀ (l : List Int) (q : List Nat × List Nat), l.foldl (fun q _ => popOnce c q) q = popK c l.length q
  | [], _ => rfl
  | _ :: r, q => fold_popK c r (popOnce c q)
def Desc (st : List Nat) : Prop := st.Pairwise (fun a b => b ≤ a)
theorem split_last {α : Type} (l : List α) : l = [] ∨ ∃ r t, l = r ++ [t] := by
  rcases List.eq_nil_or_concat l with h | ⟨r, t, h⟩
  · exact .inl h
  · exact .inr ⟨r, t, by rw [h, List.concat_eq_append]⟩
theorem popOnce_nil (c : Nat) (fd : List Nat) : popOnce c ([], fd) = ([], fd) := rfl
theorem popOnce_lt {c t : Nat} {r fd : List Nat} (h : t < c) : popOnce c (r ++ [t], fd) = (r, fd ++ [t]) := by
  simp [popOnce, h]
theorem popOnce_ge {c t : Nat} {r fd : List Nat} (h : ¬ t < c) : popOnce c (r ++ [t], fd) = (r ++ [t], fd) := by
  simp [popOnce, h]
/-- what holds of the pile from turn to turn -/
structure Ok (j : Nat) (q : List Nat × List Nat) : Prop where
  desc : Desc q.1
  len : q.1.length + q.2.length = j
  low : ∀ c ∈ q.1, c < 128
  low2 : ∀ c ∈ q.2, c < 128
theorem Ok.once {j c : Nat} {q : List Nat × List Nat} (h : Ok j q) : Ok j (popOnce c q) := by
  obtain ⟨st, fd⟩ := q
  rcases split_last st with rfl | ⟨r, t, rfl⟩
  · exact h
  · by_cases ht : t < c
    · rw [popOnce_lt ht]
      have l := h.len
      have d := h.desc
      simp only [List.length_append, List.length_cons, List.length_nil] at l
      exact ⟨(List.pairwise_append.mp d).1, by simp only [List.length_append, List.length_cons, List.length_nil]; omega, fun c hc => h.low c (List.mem_append_left _ hc), fun c hc => (List.mem_append.mp hc).elim (h.low2 c) fun e => by rw [List.mem_singleton.mp e]; exact h.low t (List.mem_append_right _ (.head _))⟩
    · rw [popOnce_ge ht]; exact h
theorem Ok.many {j c : Nat} : ∀ {k : Nat} {q : List Nat × List Nat}, Ok j q → Ok j (popK c k q)
  | 0, _, h => h
  | k + 1, _, h => Ok.many (k := k) h.once
theorem popK_stop {c : Nat} : ∀ (k : Nat) (st fd : List Nat), st.length ≤ k → ∀ t r, (popK c k (st, fd)).1 = r ++ [t] → c ≤ t
  | 0, st, fd, h, t, r, e => by
    have : st = [] := List.eq_nil_of_length_eq_zero (by omega)
    subst this
    simp [Mine.popK] at e
  | k + 1, st, fd, h, t, r, e => by
    rcases split_last st with rfl | ⟨r', t', rfl⟩
    · exact popK_stop k [] fd (Nat.zero_le _) t r e
    · by_cases ht : t' < c
      · have e' : (Mine.popK c k (r', fd ++ [t'])).1 = r ++ [t] := by rw [← e]; show _ = (Mine.popK c k (popOnce c (r' ++ [t'], fd))).1; rw [popOnce_lt ht]
        exact popK_stop k r' _ (by simp only [List.length_append, List.length_cons, List.length_nil] at h; omega) t r e'
      · have fix : ∀ m, Mine.popK c m (r' ++ [t'], fd) = (r' ++ [t'], fd) := by
          intro m
          induction m with
          | zero => rfl
          | succ m ih => show Mine.popK c m (popOnce c _) = _; rw [popOnce_ge ht]; exact ih
        rw [fix] at e
        have := List.append_inj_right' e rfl
        have : t' = t := by simpa using this
        omega
theorem Ok.step {j n c : Nat} {q : List Nat × List Nat} (h : Ok j q) (hj : j ≤ n) (hc : c < 128) : Ok (j + 1) (stepF n q c) := by
  have h' := h.many (c := c) (k := n)
  have l := h'.len
  refine ⟨?_, by simp only [stepF, List.length_append, List.length_cons, List.length_nil]; omega, fun d hd => (List.mem_append.mp hd).elim (h'.low d) fun e => by rw [List.mem_singleton.mp e]; exact hc, h'.low2⟩
  refine List.pairwise_append.mpr ⟨h'.desc, List.pairwise_singleton _ _, fun a ha b hb => ?_⟩
  rw [List.mem_singleton.mp hb]
  rcases split_last (Mine.popK c n q).1 with e | ⟨r, t, e⟩
  · rw [e] at ha; cases ha
  · have ht : c ≤ t := by
      obtain ⟨st, fd⟩ := q
      have := h.len
      exact popK_stop n st fd (by dsimp only at this; omega) t r e
    have hd := h'.desc
    rw [e] at hd ha
    rcases List.mem_append.mp ha with h1 | h1
    · exact Nat.le_trans ht ((List.pairwise_append.mp hd).2.2 a h1 t (.head _))
    · rw [List.mem_singleton.mp h1]; exact ht
theorem Ok.start : Ok 0 ([], []) := ⟨.nil, rfl, fun _ h => (nomatch h), fun _ h => (nomatch h)⟩
theorem Ok.fold {n : Nat} : ∀ {l : List Nat} {j : Nat} {q : List Nat × List Nat}, Ok j q → j + l.length ≤ n → (∀ c ∈ l, c < 128) → Ok (j + l.length) (l.foldl (stepF n) q)
  | [], _, _, h, _, _ => h
  | c :: r, j, q, h, hj, hl => by
    have := Ok.fold (n := n) (l := r) (h.step (c := c) (n := n) (by simp only [List.length_cons] at hj; omega) (hl c (.head _))) (by simp only [List.length_cons] at hj; omega) fun d hd => hl d (.tail _ hd)
    have e : j + (c :: r).length = j + 1 + r.length := by simp only [List.length_cons]; omega
    rw [e]
    exact this
/-- the pile in the heap: its places, and the octets there -/
def Pile (n aw : Nat) (ns : List Int) (pl : Led) (ws : List Value) (st : List Nat) : Prop :=
  ws.length = st.length ∧ st.length ≤ n ∧ ∀ (i c : Nat), st[i]? = some c → ns[(n - 1 - i : Nat)]? = some (c : Int) ∧ ∃ (p : Nat) (ti tj : Tok), ws[i]? = some (.ref p) ∧ (p, listOf #[.int ((n - 1 - i : Nat) : Int) ti, .int 1 tj] 0) ∈ pl ∧ aw < p
theorem Pile.nil {n aw : Nat} {ns : List Int} {pl : Led} : Pile n aw ns pl [] [] := ⟨rfl, Nat.zero_le _, fun i c h => by simp at h⟩
theorem Pile.mono {n aw : Nat} {ns : List Int} {pl pl' : Led} {ws : List Value} {st : List Nat} (h : Pile n aw ns pl ws st) (hs : ∀ p ∈ pl, p ∈ pl') : Pile n aw ns pl' ws st :=
  ⟨h.1, h.2.1, fun i c e => let ⟨a, p, ti, tj, b, d, g⟩ := h.2.2 i c e; ⟨a, p, ti, tj, b, hs _ d, g⟩⟩
theorem Pile.empty {n aw : Nat} {ns : List Int} {pl : Led} {ws : List Value} (h : Pile n aw ns pl ws []) : ws = [] := List.eq_nil_of_length_eq_zero h.1
theorem Pile.top {n aw : Nat} {ns : List Int} {pl : Led} {ws : List Value} {r : List Nat} {t : Nat} (h : Pile n aw ns pl ws (r ++ [t])) :
    ∃ (ws' : List Value) (p : Nat) (ti tj : Tok), ws = ws' ++ [.ref p] ∧ Pile n aw ns pl ws' r ∧ (p, listOf #[.int ((n - (r.length + 1) : Nat) : Int) ti, .int 1 tj] 0) ∈ pl ∧ aw < p ∧ ns[(n - (r.length + 1) : Nat)]? = some (t : Int) := by
  have hl : ws.length = r.length + 1 := by simpa using h.1
  obtain ⟨a, p, ti, tj, b, d, g⟩ := h.2.2 r.length t (by simp)
  have e : n - 1 - r.length = n - (r.length + 1) := by omega
  rw [e] at a d
  rcases split_last ws with e1 | ⟨ws', v, rfl⟩
  · rw [e1] at hl; cases hl
  have hl' : ws'.length = r.length := by simpa using hl
  have hv : v = .ref p := by
    rw [← hl'] at b
    simpa using b
  subst hv
  refine ⟨ws', p, ti, tj, rfl, ⟨hl', by have := h.2.1; simp at this; omega, fun i c hi => ?_⟩, d, g, a⟩
  have hlt : i < r.length := by
    rcases Nat.lt_or_ge i r.length with h' | h'
    · exact h'
    · rw [List.getElem?_eq_none h'] at hi; cases hi
  obtain ⟨a', p', ti', tj', b', d', g'⟩ := h.2.2 i c (by rw [List.getElem?_append_left hlt]; exact hi)
  refine ⟨a', p', ti', tj', ?_, d', g'⟩
  rw [List.getElem?_append_left (by omega)] at b'
  exact b'
theorem Pile.push {n aw : Nat} {ns : List Int} {pl : Led} {ws : List Value} {st : List Nat} {c p : Nat} {ti tj : Tok} (h : Pile n aw ns pl ws st) (hn : ns.length = n) (hlt : st.length < n) (hp : aw < p) :
    Pile n aw (ns.set (n - 1 - st.length) (c : Int)) ((p, listOf #[.int ((n - 1 - st.length : Nat) : Int) ti, .int 1 tj] 0) :: pl) (ws ++ [.ref p]) (st ++ [c]) := by
  refine ⟨by simp [h.1], by simp; omega, fun i d hi => ?_⟩
  rcases Nat.lt_trichotomy i st.length with hlt' | e | hgt
  · rw [List.getElem?_append_left hlt'] at hi
    obtain ⟨a', p', ti', tj', b', d', g'⟩ := h.2.2 i d hi
    refine ⟨?_, p', ti', tj', ?_, .tail _ d', g'⟩
    · rw [List.getElem?_set_ne (by omega)]; exact a'
    · rw [List.getElem?_append_left (by rw [h.1]; exact hlt')]; exact b'
  · subst e
    have : d = c := by simpa using hi.symm
    subst this
    refine ⟨?_, p, ti, tj, ?_, .head _, hp⟩
    · rw [List.getElem?_set_self (by omega)]
    · rw [← h.1]; simp
  · rw [List.getElem?_eq_none (by simp; omega)] at hi; cases hi
def itK (c : Nat) : Nat → List Nat × List Nat → List Nat × List Nat
  | 0, q => q
  | k + 1, q => popOnce c (itK c k q)
theorem itK_shift (c : Nat) : ∀ (k : Nat) (q : List Nat × List Nat), itK c k (popOnce c q) = itK c (k + 1) q
  | 0, _ => rfl
  | k + 1, q => congrArg (popOnce c) (itK_shift c k q)
theorem itK_popK (c : Nat) : ∀ (k : Nat) (q : List Nat × List Nat), itK c k q = popK c k q
  | 0, _ => rfl
  | k + 1, q => by
    show itK c (k + 1) q = popK c k (popOnce c q)
    rw [← itK_shift, itK_popK c k]
def popTop (q : List Nat × List Nat) : List Nat × List Nat := (q.1.dropLast, q.2 ++ q.1.getLast?.toList)
def itT : Nat → List Nat × List Nat → List Nat × List Nat
  | 0, q => q
  | k + 1, q => popTop (itT k q)
theorem popTop_eq (r fd : List Nat) (t : Nat) : popTop (r ++ [t], fd) = (r, fd ++ [t]) := by simp [popTop]
theorem itT_shift : ∀ (k : Nat) (q : List Nat × List Nat), itT k (popTop q) = itT (k + 1) q
  | 0, _ => rfl
  | k + 1, q => congrArg popTop (itT_shift k q)
theorem itT_len : ∀ (k : Nat) (q : List Nat × List Nat), (itT k q).1.length = q.1.length - k
  | 0, _ => rfl
  | k + 1, q => by
    show (popTop (itT k q)).1.length = _
    simp only [popTop, List.length_dropLast, itT_len k q]
    omega
theorem itT_all : ∀ (st fd : List Nat), itT st.length (st, fd) = ([], fd ++ st.reverse) := by
  intro st
  induction h : st.length generalizing st with
  | zero => intro fd; rw [List.eq_nil_of_length_eq_zero h]; simp [itT]
  | succ k ih =>
    intro fd
    rcases split_last st with rfl | ⟨r, t, rfl⟩
    · cases h
    · have hr : r.length = k := by simpa using h
      rw [← itT_shift, popTop_eq, ih r hr]
      simp
theorem Ok.top {j : Nat} {r fd : List Nat} {t : Nat} (h : Ok j (r ++ [t], fd)) : Ok j (r, fd ++ [t]) := by
  have l := h.len
  have d := h.desc
  simp only [List.length_append, List.length_cons, List.length_nil] at l
  exact ⟨(List.pairwise_append.mp d).1, by simp only [List.length_append, List.length_cons, List.length_nil]; omega, fun c hc => h.low c (List.mem_append_left _ hc), fun c hc => (List.mem_append.mp hc).elim (h.low2 c) fun e => by rw [List.mem_singleton.mp e]; exact h.low t (List.mem_append_right _ (.head _))⟩
end
section
def txt (l : List Nat) : Str := ⟨l.toArray⟩
theorem txt_snoc (l : List Nat) (c : Nat) : txt l ++ (⟨#[c]⟩ : Str) = txt (l ++ [c]) := by
  refine PySem.Str.ext' (Array.toList_inj.mp ?_)
  rw [PySem.Str.cps_append, Array.toList_append]
  simp [txt]
/-- what stands between two turns that take signs off: the pile, the text found -/
def ThR (w : World) (n j : Nat) (x dx ao ah aw : Nat) (k : Nat → Tok) (octs : List Value) (ns : List Int) (no : Nat) (pl pp : Led) (cS : Addr) (oc : Obj) (m₀ : Str → Option Value) (q : List Nat × List Nat) (m : Str → Option Value) (nx : Led) : Prop :=
  ∃ (tf tq : Tok) (ws : List Value) (nw : Nat), nx = (cS, oc) :: spLed w n ((n - q.1.length : Nat) : Int) tf x dx ao ah aw k octs no ws nw pl ∧ Pile n aw ns pp ws q.1 ∧ Ok j q ∧ m (Str.ofString "found") = some (.str (txt q.2) tq) ∧ ∀ z, z ≠ Str.ofString "turn" → z ≠ Str.ofString "found" → m z = m₀ z
section
variable {prog : Program} {w : World} {A : Around} {E : Value → Shared → Prop} {s : Shared} {env : Env} {h₀ : Heap} {body : List Stmt} {Q : Flow → Shared → Prop}
  {n j : Nat} {x dx ao ah aw : Nat} {k : Nat → Tok} {octs : List Value} {ns : List Int} {no : Nat} {pl pp : Led} {cS : Addr} {oc : Obj} {m₀ : Str → Option Value} {q : List Nat × List Nat}
/-- a loop whose turns take signs off the pile -/
theorem th_off {r : Addr} {e : Nat} {t₀ u₀ v₀ tf tq : Tok} {ws : List Value} {nw : Nat} (g : List Nat × List Nat → List Nat × List Nat) (J : Nat → List Nat × List Nat → Prop) (hJ : ∀ i q, J i q → J (i + 1) (g q))
    (hh : A.handled = none) (hr : IsRange s.heap r 0 (e : Int) 1 t₀ u₀ v₀) (he : e ≤ 5) (F : Fr h₀ env.locals s.heap m₀)
    (N : News h₀ env.locals s.heap ((cS, oc) :: spLed w n ((n - q.1.length : Nat) : Int) tf x dx ao ah aw k octs no ws nw pl)) (hP : Pile n aw ns pp ws q.1) (hO : Ok j q) (hf : m₀ (Str.ofString "found") = some (.str (txt q.2) tq)) (hj : J 0 q)
    (turn : ∀ (i : Nat) (ki : Int) (t : Tok) (q : List Nat × List Nat) (tf tq : Tok) (ws : List Value) (nw : Nat) (h : Heap) (tk : Nat) (own : Led), i < e → J i q → Pile n aw ns pp ws q.1 → Ok j q → OwnOff own (cS :: x :: dx :: ao :: aw :: pl.map (·.1)) →
      Fr h₀ env.locals h (fun y => if y = Str.ofString "turn" then some (.int ki t) else if y = Str.ofString "found" then some (.str (txt q.2) tq) else m₀ y) →
      News h₀ env.locals h ((cS, oc) :: spLed w n ((n - q.1.length : Nat) : Int) tf x dx ao ah aw k octs no ws nw (pl ++ own)) →
      wpAny (model prog w) A (execs body env) (InvPostN h₀ env.locals (ThR w n j x dx ao ah aw k octs ns no pl pp cS oc m₀ (g q)) own (cS :: x :: dx :: ao :: aw :: pl.map (·.1)) { s with heap := h, toks := tk } Q) E { s with heap := h, toks := tk })
    (done : ∀ (u : Str → Option Value) (q : List Nat × List Nat) (tf tq : Tok) (ws : List Value) (nw : Nat) (h : Heap) (tk : Nat), J e q → Pile n aw ns pp ws q.1 → Ok j q →
      Fr h₀ env.locals h (fun y => if y = Str.ofString "turn" then u y else if y = Str.ofString "found" then some (.str (txt q.2) tq) else m₀ y) →
      News h₀ env.locals h ((cS, oc) :: spLed w n ((n - q.1.length : Nat) : Int) tf x dx ao ah aw k octs no ws nw pl) → Q .next { s with heap := h, toks := tk }) :
    wpAny (model prog w) A (pyIter (.ref r)) (fun it s₂ => LoopAtV prog w A h₀ env (Str.ofString "turn") body Q E it s₂) E s := by
  have hne : (Str.ofString "found") ≠ Str.ofString "turn" := by decide
  refine wpAny_pyIter_range hr (small_one (by omega) (by omega) (by omega) (by omega)) ?_
  have hn : Builtin.Range.rangeSize 0 (e : Int) 1 = (e : Int) := by have := rangeSize_nat 0 e; simpa using this
  have W : Walks prog w A s.heap.objs.size [s.heap.objs.size] [s.heap.objs.size] e (fun i v => i < e ∧ ∃ t, v = .int (0 + i * 1) t)
      (fun i h => IsRangeIter h s.heap.objs.size (0 + (i : Nat) * 1) ((e : Int) - (i : Nat)) 1) := (Walks.range hh _ 0 1 e).bound
  refine loop_invN (fun i m nx => ∃ q, J i q ∧ ThR w n j x dx ao ah aw k octs ns no pl pp cS oc m₀ q m nx) W ?_ ?_ ?_ ?_ (by show IsRangeIter _ _ _ _ _; rw [hn]; simpa using Heap.get?_push_size _ rfl) (F.push _) (fun p hp => ⟨Heap.get?_push_of_some _ (N p hp).1, (N p hp).2⟩) ⟨q, hj, tf, tq, ws, nw, rfl, hP, hO, hf, fun _ _ _ => rfl⟩ ?_ ?_
  · intro hm
    exact absurd F.ns.lt ((List.mem_singleton.mp hm) ▸ Nat.lt_irrefl _)
  · intro b hb
    rw [List.mem_singleton.mp hb]
    exact next_is_new F
  · intro p hp hI
    exact absurd (Heap.lt_size (N p hp).1) ((List.mem_singleton.mp hI) ▸ Nat.lt_irrefl _)
  · intro p hp hI
    exact absurd (Heap.lt_size (N p hp).1) ((List.mem_singleton.mp hI) ▸ Nat.lt_irrefl _)
  · rintro i v m₁ nx h tk own hi ⟨_, t, rfl⟩ _ hoff ⟨q', hj', tf', tq', ws', nw', rfl, hP', hO', hf', hm'⟩ F₁ N₁
    rw [map_one hf' hm'] at F₁
    refine wpAny_mono (turn i _ t q' tf' tq' ws' nw' h tk own hi hj' hP' hO' hoff F₁ N₁) (fun f s₂ p => ?_) fun _ _ x => x
    have up : InvEndN h₀ env.locals (ThR w n j x dx ao ah aw k octs ns no pl pp cS oc m₀ (g q')) own (cS :: x :: dx :: ao :: aw :: pl.map (·.1)) { s with heap := h, toks := tk } s₂ →
        InvEndN h₀ env.locals (fun m nx => ∃ q, J (i + 1) q ∧ ThR w n j x dx ao ah aw k octs ns no pl pp cS oc m₀ q m nx) own (cS :: x :: dx :: ao :: aw :: pl.map (·.1)) { s with heap := h, toks := tk } s₂ := by
      rintro ⟨h', tk', m'', news', nx', e', F', N', hn', ho', ha', hR⟩
      exact ⟨h', tk', m'', news', nx', e', F', N', hn', ho', ha', _, hJ _ _ hj', hR⟩
    cases f with
    | ret v => exact p
    | brk => exact p
    | next => exact up p
    | cont => exact up p
  · rintro m₁ nx h tk ⟨q', hj', tf', tq', ws', nw', rfl, hP', hO', hf', hm'⟩ F₁ N₁
    refine done m₁ q' tf' tq' ws' nw' h tk hj' hP' hO' ?_ N₁
    have e1 : (fun y => if y = Str.ofString "turn" then m₁ y else if y = Str.ofString "found" then some (.str (txt q'.2) tq') else m₀ y) = m₁ := by
      funext y
      by_cases h1 : y = Str.ofString "turn"
      · rw [if_pos h1]
      · rw [if_neg h1]
        by_cases h2 : y = Str.ofString "found"
        · rw [if_pos h2, h2]; exact hf'.symm
        · rw [if_neg h2]; exact (hm' y h1 h2).symm
    rw [e1]
    exact F₁
end
theorem sub5 {a b c d e : Addr × Obj} {l l' : Led} (h : ∀ p ∈ l, p ∈ l') : ∀ p ∈ a :: b :: c :: d :: e :: l, p ∈ a :: b :: c :: d :: e :: l' := fun p hp => by
  rcases List.mem_cons.mp hp with rfl | hp
  · exact .head _
  rcases List.mem_cons.mp hp with rfl | hp
  · exact .tail _ (.head _)
  rcases List.mem_cons.mp hp with rfl | hp
  · exact .tail _ (.tail _ (.head _))
  rcases List.mem_cons.mp hp with rfl | hp
  · exact .tail _ (.tail _ (.tail _ (.head _)))
  rcases List.mem_cons.mp hp with rfl | hp
  · exact .tail _ (.tail _ (.tail _ (.tail _ (.head _))))
  exact .tail _ (.tail _ (.tail _ (.tail _ (.tail _ (h p hp)))))
/-- the space's objects to the front, a place behind them -/
theorem news_sp {h₀ h : Heap} {L : Addr} {z a b c d e g : Addr × Obj} {l : Led} (N : News h₀ L h (z :: a :: b :: c :: d :: e :: l)) (hg : g ∈ l) : News h₀ L h (b :: c :: d :: e :: g :: z :: a :: l) := fun p hp => N p (by
  rcases List.mem_cons.mp hp with rfl | hp
  · exact .tail _ (.tail _ (.head _))
  rcases List.mem_cons.mp hp with rfl | hp
  · exact .tail _ (.tail _ (.tail _ (.head _)))
  rcases List.mem_cons.mp hp with rfl | hp
  · exact .tail _ (.tail _ (.tail _ (.tail _ (.head _))))
  rcases List.mem_cons.mp hp with rfl | hp
  · exact .tail _ (.tail _ (.tail _ (.tail _ (.tail _ (.head _)))))
  rcases List.mem_cons.mp hp with rfl | hp
  · exact .tail _ (.tail _ (.tail _ (.tail _ (.tail _ (.tail _ hg)))))
  rcases List.mem_cons.mp hp with rfl | hp
  · exact .head _
  rcases List.mem_cons.mp hp with rfl | hp
  · exact .tail _ (.head _)
  exact .tail _ (.tail _ (.tail _ (.tail _ (.tail _ (.tail _ hp))))))
theorem news_back {h₀ h : Heap} {L : Addr} {z a b c d e g : Addr × Obj} {l : Led} (N : News h₀ L h (b :: c :: d :: e :: g :: z :: a :: l)) : News h₀ L h (a :: b :: c :: d :: e :: l) := fun p hp => N p (by
  rcases List.mem_cons.mp hp with rfl | hp
  · exact .tail _ (.tail _ (.tail _ (.tail _ (.tail _ (.tail _ (.head _))))))
  rcases List.mem_cons.mp hp with rfl | hp
  · exact .head _
  rcases List.mem_cons.mp hp with rfl | hp
  · exact .tail _ (.head _)
  rcases List.mem_cons.mp hp with rfl | hp
  · exact .tail _ (.tail _ (.head _))
  rcases List.mem_cons.mp hp with rfl | hp
  · exact .tail _ (.tail _ (.tail _ (.head _)))
  exact .tail _ (.tail _ (.tail _ (.tail _ (.tail _ (.tail _ (.tail _ hp)))))))
theorem th_end {w : World} {h₀ h' : Heap} {L : Addr} {n j : Nat} {x dx ao ah aw : Nat} {k : Nat → Tok} {octs : List Value} {ns : List Int} {no : Nat} {pl pp : Led} {cS : Addr} {oc : Obj} {m₀ m' : Str → Option Value} {q : List Nat × List Nat} {own news' : Led} {s₁ : Shared} {tk : Nat} {fr : Int} {tf tq : Tok} {ws : List Value} {nw : Nat} {fd : Str}
    (F : Fr h₀ L h' m') (N : News h₀ L h' news') (hn : ∀ p ∈ (cS, oc) :: spLed w n fr tf x dx ao ah aw k octs no ws nw pl, p ∈ news') (ho : ∀ p ∈ own, p ∈ news') (hfr : fr = ((n - q.1.length : Nat) : Int)) (hP : Pile n aw ns pp ws q.1) (hO : Ok j q)
    (hf : m' (Str.ofString "found") = some (.str fd tq)) (hfd : fd = txt q.2) (hm : ∀ z, z ≠ Str.ofString "turn" → z ≠ Str.ofString "found" → m' z = m₀ z) :
    InvEndN h₀ L (ThR w n j x dx ao ah aw k octs ns no pl pp cS oc m₀ q) own (cS :: x :: dx :: ao :: aw :: pl.map (·.1)) s₁ { s₁ with heap := h', toks := tk } := by
  subst hfr hfd
  exact InvEndN.intro F N ⟨tf, tq, ws, nw, rfl, hP, hO, hf, hm⟩ rfl hn ho
theorem lt_signs (a b : Nat) : (([a] : List Nat) < [b]) ↔ a < b := by
  constructor
  · intro h
    rcases List.cons_lt_cons_iff.mp h with h | ⟨_, h⟩
    · exact h
    · cases h
  · exact fun h => List.cons_lt_cons_iff.mpr (.inl h)
theorem news_sp0 {h₀ h : Heap} {L : Addr} {a b c d e g : Addr × Obj} {l : Led} (N : News h₀ L h (a :: b :: c :: d :: e :: l)) (hg : g ∈ l) : News h₀ L h (b :: c :: d :: e :: g :: a :: l) := fun p hp => N p (by
  rcases List.mem_cons.mp hp with rfl | hp
  · exact .tail _ (.head _)
  rcases List.mem_cons.mp hp with rfl | hp
  · exact .tail _ (.tail _ (.head _))
  rcases List.mem_cons.mp hp with rfl | hp
  · exact .tail _ (.tail _ (.tail _ (.head _)))
  rcases List.mem_cons.mp hp with rfl | hp
  · exact .tail _ (.tail _ (.tail _ (.tail _ (.head _))))
  rcases List.mem_cons.mp hp with rfl | hp
  · exact .tail _ (.tail _ (.tail _ (.tail _ (.tail _ hg))))
  rcases List.mem_cons.mp hp with rfl | hp
  · exact .head _
  exact .tail _ (.tail _ (.tail _ (.tail _ (.tail _ hp)))))
theorem news_back0 {h₀ h : Heap} {L : Addr} {a b c d e g : Addr × Obj} {l : Led} (N : News h₀ L h (b :: c :: d :: e :: g :: a :: l)) : News h₀ L h (a :: b :: c :: d :: e :: l) := fun p hp => N p (by
  rcases List.mem_cons.mp hp with rfl | hp
  · exact .tail _ (.tail _ (.tail _ (.tail _ (.tail _ (.head _)))))
  rcases List.mem_cons.mp hp with rfl | hp
  · exact .head _
  rcases List.mem_cons.mp hp with rfl | hp
  · exact .tail _ (.head _)
  rcases List.mem_cons.mp hp with rfl | hp
  · exact .tail _ (.tail _ (.head _))
  rcases List.mem_cons.mp hp with rfl | hp
  · exact .tail _ (.tail _ (.tail _ (.head _)))
  exact .tail _ (.tail _ (.tail _ (.tail _ (.tail _ (.tail _ hp))))))
theorem off_app {a b : Led} {l : List Addr} (h1 : OwnOff a l) (h2 : OwnOff b l) : OwnOff (a ++ b) l := fun p hp => (List.mem_append.mp hp).elim (h1 p) (h2 p)
theorem off_cons {p : Addr × Obj} {a : Led} {l : List Addr} (h1 : ∀ b ∈ l, p.1 ≠ b) (h2 : OwnOff a l) : OwnOff (p :: a) l := fun q hq => by
  rcases List.mem_cons.mp hq with rfl | hq
  · exact h1
  · exact h2 q hq
theorem off_mono {a : Led} {l l' : List Addr} (h : OwnOff a l') (hs : ∀ b ∈ l, b ∈ l') : OwnOff a l := fun p hp b hb => h p hp b (hs b hb)
/-- the loop's own objects lie off the space -/
theorem off_own {own : Led} {cS x dx ao aw : Addr} {l : List Addr} (h : OwnOff own (cS :: x :: dx :: ao :: aw :: l)) : OwnOff own [x, dx, ao, aw] := off_mono h fun b hb => by
  rcases List.mem_cons.mp hb with rfl | hb
  · exact .tail _ (.head _)
  rcases List.mem_cons.mp hb with rfl | hb
  · exact .tail _ (.tail _ (.head _))
  rcases List.mem_cons.mp hb with rfl | hb
  · exact .tail _ (.tail _ (.tail _ (.head _)))
  rw [List.mem_singleton.mp hb]
  exact .tail _ (.tail _ (.tail _ (.tail _ (.head _))))
theorem add_room {fd : List Nat} {c : Nat} (h : fd.length ≤ 5) : (txt fd).length + (⟨#[c]⟩ : Str).length ≤ sizeLine := by
  have e1 : (txt fd).length = fd.length := by simp [txt, PySem.Str.length]
  have e2 : (⟨#[c]⟩ : Str).length = 1 := by simp [PySem.Str.length]
  rw [e1, e2, PySem.sizeLine_eq]
  omega
theorem news_cell {h₀ h : Heap} {L : Addr} {a b c d e : Addr × Obj} {l : Led} (N : News h₀ L h (a :: b :: c :: d :: e :: l)) : News h₀ L h (b :: c :: d :: e :: a :: l) := fun p hp => N p (by
  rcases List.mem_cons.mp hp with rfl | hp
  · exact .tail _ (.head _)
  rcases List.mem_cons.mp hp with rfl | hp
  · exact .tail _ (.tail _ (.head _))
  rcases List.mem_cons.mp hp with rfl | hp
  · exact .tail _ (.tail _ (.tail _ (.head _)))
  rcases List.mem_cons.mp hp with rfl | hp
  · exact .tail _ (.tail _ (.tail _ (.tail _ (.head _))))
  rcases List.mem_cons.mp hp with rfl | hp
  · exact .head _
  exact .tail _ (.tail _ (.tail _ (.tail _ (.tail _ hp)))))
theorem cell_back {h₀ h : Heap} {L : Addr} {a b c d e g : Addr × Obj} {l : Led} (N : News h₀ L h (b :: c :: d :: e :: g :: a :: l)) : News h₀ L h (a :: b :: c :: d :: e :: g :: l) := fun p hp => N p (by
  rcases List.mem_cons.mp hp with rfl | hp
  · exact .tail _ (.tail _ (.tail _ (.tail _ (.tail _ (.head _)))))
  rcases List.mem_cons.mp hp with rfl | hp
  · exact .head _
  rcases List.mem_cons.mp hp with rfl | hp
  · exact .tail _ (.head _)
  rcases List.mem_cons.mp hp with rfl | hp
  · exact .tail _ (.tail _ (.head _))
  rcases List.mem_cons.mp hp with rfl | hp
  · exact .tail _ (.tail _ (.tail _ (.head _)))
  rcases List.mem_cons.mp hp with rfl | hp
  · exact .tail _ (.tail _ (.tail _ (.tail _ (.head _))))
  exact .tail _ (.tail _ (.tail _ (.tail _ (.tail _ (.tail _ hp))))))
theorem news_dup5 {h₀ h : Heap} {L : Addr} {b c d e g : Addr × Obj} {l : Led} (N : News h₀ L h l) (hb : b ∈ l) (hc : c ∈ l) (hd : d ∈ l) (he : e ∈ l) (hg : g ∈ l) : News h₀ L h (b :: c :: d :: e :: g :: l) := fun p hp => N p (by
  rcases List.mem_cons.mp hp with rfl | hp
  · exact hb
  rcases List.mem_cons.mp hp with rfl | hp
  · exact hc
  rcases List.mem_cons.mp hp with rfl | hp
  · exact hd
  rcases List.mem_cons.mp hp with rfl | hp
  · exact he
  rcases List.mem_cons.mp hp with rfl | hp
  · exact hg
  exact hp)
theorem news_undup5 {h₀ h : Heap} {L : Addr} {b c d e g : Addr × Obj} {l : Led} (N : News h₀ L h (b :: c :: d :: e :: g :: l)) : News h₀ L h l := fun p hp => N p (.tail _ (.tail _ (.tail _ (.tail _ (.tail _ hp)))))
theorem sub_head {g : Addr × Obj} {l l' : Led} (h : ∀ p ∈ l, p ∈ l') : ∀ p ∈ g :: l, p ∈ g :: l' := fun p hp => by
  rcases List.mem_cons.mp hp with rfl | hp
  · exact .head _
  · exact .tail _ (h p hp)
end
section
def wq (word : Str) (n i : Nat) : List Nat × List Nat := (word.cps.toList.take i).foldl (stepF n) ([], [])
theorem wq_succ {word : Str} {n i c : Nat} (h : word.cps[i]? = some c) : wq word n (i + 1) = stepF n (wq word n i) c := by
  have h' : word.cps.toList[i]? = some c := by simpa using h
  unfold wq
  rw [List.take_add_one, h']
  simp
def ThJ (w : World) (word : Str) (n : Nat) (x dx ao ah aw : Nat) (k : Nat → Tok) (cS : Addr) (oc : Obj) (pl0 : Led) (m₀ : Str → Option Value) (i : Nat) (m : Str → Option Value) (nx : Led) : Prop :=
  ∃ (tf tq : Tok) (octs : List Value) (ns : List Int) (no : Nat) (ws : List Value) (nw : Nat) (pl : Led), nx = (cS, oc) :: spLed w n ((n - (wq word n i).1.length : Nat) : Int) tf x dx ao ah aw k octs no ws nw pl ∧ IntsAre octs ns ∧ ns.length = n ∧ Pile n aw ns pl ws (wq word n i).1 ∧ Ok i (wq word n i) ∧
    OwnOff ((cS, oc) :: pl) [x, dx, ao, aw] ∧ (∀ p ∈ pl0, p ∈ pl) ∧ m (Str.ofString "found") = some (.str (txt (wq word n i).2) tq) ∧ ∀ z, z ≠ Str.ofString "sign" → z ≠ Str.ofString "found" → z ≠ Str.ofString "turn" → z ≠ Str.ofString "row" → m z = m₀ z
def thMap (m₀ u : Str → Option Value) (v : Option Value) (fd : List Nat) (tq : Tok) : Str → Option Value := fun y =>
  if y = Str.ofString "sign" then v else if y = Str.ofString "found" then some (.str (txt fd) tq) else if y = Str.ofString "turn" then u (Str.ofString "turn") else if y = Str.ofString "row" then u (Str.ofString "row") else m₀ y
theorem thMap_eq {m₀ m₁ : Str → Option Value} {v : Option Value} {fd : List Nat} {tq : Tok} (hf : m₁ (Str.ofString "found") = some (.str (txt fd) tq)) (hm : ∀ z, z ≠ Str.ofString "sign" → z ≠ Str.ofString "found" → z ≠ Str.ofString "turn" → z ≠ Str.ofString "row" → m₁ z = m₀ z) :
    (fun y => if y = Str.ofString "sign" then v else m₁ y) = thMap m₀ m₁ v fd tq := by
  funext y
  unfold thMap
  by_cases h1 : y = Str.ofString "sign"
  · rw [if_pos h1, if_pos h1]
  rw [if_neg h1, if_neg h1]
  by_cases h2 : y = Str.ofString "found"
  · rw [if_pos h2, h2]; exact hf
  rw [if_neg h2]
  by_cases h3 : y = Str.ofString "turn"
  · rw [if_pos h3, h3]
  rw [if_neg h3]
  by_cases h4 : y = Str.ofString "row"
  · rw [if_pos h4, h4]
  rw [if_neg h4]
  exact hm y h1 h2 h3 h4
section
variable {prog : Program} {w : World} {A : Around} {E : Value → Shared → Prop} {s : Shared} {env : Env} {h₀ : Heap} {body : List Stmt} {Q : Flow → Shared → Prop}
  {n : Nat} {x dx ao ah aw : Nat} {k : Nat → Tok} {cS : Addr} {oc : Obj} {m₀ : Str → Option Value}
/-- the loop over the word -/
theorem th_word {word : Str} {tw tf tq : Tok} {octs : List Value} {ns : List Int} {no : Nat} {nw : Nat} {pl0 : Led} (hl : ∀ c ∈ word.cps.toList, c < 128) (hw : word.cps.size = n)
    (hh : A.handled = none) (F : Fr h₀ env.locals s.heap m₀)
    (N : News h₀ env.locals s.heap ((cS, oc) :: spLed w n (n : Int) tf x dx ao ah aw k octs no [] nw pl0)) (hI : IntsAre octs ns) (hz : ns.length = n) (ho : OwnOff ((cS, oc) :: pl0) [x, dx, ao, aw]) (hf : m₀ (Str.ofString "found") = some (.str (txt []) tq))
    (turn : ∀ (i c : Nat) (u : Tok) (um : Str → Option Value) (tf tq : Tok) (octs : List Value) (ns : List Int) (no : Nat) (ws : List Value) (nw : Nat) (pl own : Led) (h : Heap) (tk : Nat), i < n → word.cps[i]? = some c → c < 128 → IntsAre octs ns → ns.length = n → Pile n aw ns pl ws (wq word n i).1 → Ok i (wq word n i) → OwnOff ((cS, oc) :: (pl ++ own)) [x, dx, ao, aw] → (∀ p ∈ pl0, p ∈ pl) → OwnOff own (cS :: x :: dx :: ao :: aw :: pl.map (·.1)) →
      Fr h₀ env.locals h (thMap m₀ um (some (.str ⟨#[c]⟩ u)) (wq word n i).2 tq) →
      News h₀ env.locals h ((cS, oc) :: spLed w n ((n - (wq word n i).1.length : Nat) : Int) tf x dx ao ah aw k octs no ws nw (pl ++ own)) →
      wpAny (model prog w) A (execs body env) (InvPostG h₀ env.locals (ThJ w word n x dx ao ah aw k cS oc pl0 m₀ (i + 1)) own { s with heap := h, toks := tk } Q) E { s with heap := h, toks := tk })
    (done : ∀ (u : Str → Option Value) (tf tq : Tok) (octs : List Value) (ns : List Int) (no : Nat) (ws : List Value) (nw : Nat) (pl : Led) (h : Heap) (tk : Nat), IntsAre octs ns → ns.length = n → Pile n aw ns pl ws (wq word n n).1 → Ok n (wq word n n) → OwnOff ((cS, oc) :: pl) [x, dx, ao, aw] → (∀ p ∈ pl0, p ∈ pl) →
      Fr h₀ env.locals h (thMap m₀ u (u (Str.ofString "sign")) (wq word n n).2 tq) →
      News h₀ env.locals h ((cS, oc) :: spLed w n ((n - (wq word n n).1.length : Nat) : Int) tf x dx ao ah aw k octs no ws nw pl) → Q .next { s with heap := h, toks := tk }) :
    wpAny (model prog w) A (pyIter (.str word tw)) (fun it s₂ => LoopAtV prog w A h₀ env (Str.ofString "sign") body Q E it s₂) E s := by
  have ha : (word.cps.all (· < 128)) = true := by
    rw [← Array.all_toList, List.all_eq_true]
    intro c hc
    exact decide_eq_true (hl c hc)
  subst hw
  refine iter_textG (fun i m nx => ThJ w word word.cps.size x dx ao ah aw k cS oc pl0 m₀ i m nx) ha hh F N ⟨tf, tq, octs, ns, no, [], nw, pl0, rfl, hI, hz, Pile.nil, Ok.start, ho, fun _ h => h, hf, fun _ _ _ _ _ => rfl⟩ ?_ ?_
  · rintro i c u m₁ nx h tk own hc hoff ⟨tf', tq', octs', ns', no', ws', nw', pl', rfl, hI', hz', hP', hO', ho', hsub', hf', hm'⟩ F₁ N₁
    rw [thMap_eq hf' hm'] at F₁
    have hc' : word.cps.toList[i]? = some c := by simpa using hc
    have hlt : i < word.cps.size := by
      rcases Nat.lt_or_ge i word.cps.size with h | h
      · exact h
      · rw [Array.getElem?_eq_none h] at hc; cases hc
    refine turn i c u m₁ tf' tq' octs' ns' no' ws' nw' pl' own h tk hlt hc (hl c (List.mem_of_getElem? hc')) hI' hz' hP' hO' ?_ hsub' hoff F₁ N₁
    intro p hp b hb e
    rcases List.mem_cons.mp hp with rfl | hp
    · exact ho' _ (.head _) b hb e
    rcases List.mem_append.mp hp with hp | hp
    · exact ho' p (.tail _ hp) b hb e
    · refine hoff p hp b ?_ e
      show b ∈ cS :: x :: dx :: ao :: aw :: pl'.map (·.1)
      rcases List.mem_cons.mp hb with rfl | hb
      · exact .tail _ (.head _)
      rcases List.mem_cons.mp hb with rfl | hb
      · exact .tail _ (.tail _ (.head _))
      rcases List.mem_cons.mp hb with rfl | hb
      · exact .tail _ (.tail _ (.tail _ (.head _)))
      rw [List.mem_singleton.mp hb]
      exact .tail _ (.tail _ (.tail _ (.tail _ (.head _))))
  · rintro m₁ nx h tk ⟨tf', tq', octs', ns', no', ws', nw', pl', rfl, hI', hz', hP', hO', ho', hsub', hf', hm'⟩ F₁ N₁
    have e1 : m₁ = thMap m₀ m₁ (m₁ (Str.ofString "sign")) (wq word word.cps.size word.cps.size).2 tq' := by
      rw [← thMap_eq hf' hm']
      funext y
      by_cases h1 : y = Str.ofString "sign"
      · rw [if_pos h1, h1]
      · rw [if_neg h1]
    rw [e1] at F₁
    exact done m₁ tf' tq' octs' ns' no' ws' nw' pl' h tk hI' hz' hP' hO' ho' hsub' F₁ N₁
end
theorem th_wend {w : World} {h₀ h' : Heap} {L : Addr} {word : Str} {n i : Nat} {x dx ao ah aw : Nat} {k : Nat → Tok} {octs : List Value} {ns : List Int} {no : Nat} {pl pl0 : Led} {cS : Addr} {oc : Obj} {m₀ m' : Str → Option Value} {q : List Nat × List Nat} {own news' : Led} {s₁ : Shared} {tk : Nat} {fr : Int} {tf tq : Tok} {ws : List Value} {nw : Nat}
    (F : Fr h₀ L h' m') (N : News h₀ L h' news') (hn : ∀ p ∈ (cS, oc) :: spLed w n fr tf x dx ao ah aw k octs no ws nw pl, p ∈ news') (hw : ∀ p ∈ own, p ∈ news') (hq : wq word n (i + 1) = q) (hfr : fr = ((n - q.1.length : Nat) : Int)) (hI : IntsAre octs ns) (hz : ns.length = n) (hP : Pile n aw ns pl ws q.1) (hO : Ok (i + 1) q)
    (ho : OwnOff ((cS, oc) :: pl) [x, dx, ao, aw]) (hsub : ∀ p ∈ pl0, p ∈ pl) (hof : OwnOff own (cS :: x :: dx :: ao :: aw :: pl.map (·.1))) (hf : m' (Str.ofString "found") = some (.str (txt q.2) tq)) (hm : ∀ z, z ≠ Str.ofString "sign" → z ≠ Str.ofString "found" → z ≠ Str.ofString "turn" → z ≠ Str.ofString "row" → m' z = m₀ z) :
    InvEndG h₀ L (ThJ w word n x dx ao ah aw k cS oc pl0 m₀ (i + 1)) own s₁ { s₁ with heap := h', toks := tk } := by
  subst hfr hq
  exact InvEndG.intro F N ⟨tf, tq, octs, ns, no, ws, nw, pl, rfl, hI, hz, hP, hO, ho, hsub, hf, hm⟩ hof hn hw
theorem throughF_eq (word : Str) : throughF word = txt ((wq word word.length word.length).2 ++ (wq word word.length word.length).1.reverse) := by
  have hl : word.cps.toList.length = word.length := Array.length_toList
  have e : word.cps.toList.take word.length = word.cps.toList := List.take_of_length_le (Nat.le_of_eq hl)
  unfold throughF txt throughL wq
  rw [e, hl]
end
section
def sgn (c : Nat) : Str := ⟨#[c]⟩
theorem sgn_inj {a b : Nat} (h : sgn a = sgn b) : a = b := by
  have : (sgn a).cps = (sgn b).cps := congrArg _ h
  simpa [sgn] using this
theorem ltCps_signs (a b : Nat) : PySem.Spec.ltCps [a] [b] = decide (a < b) := by
  by_cases h : a < b
  · simp [PySem.Spec.ltCps, h]
  · simp [PySem.Spec.ltCps, h]
theorem rising_signs : ∀ (l : List Nat) (p : Nat), risingS (sgn p) (l.map sgn) = true → (p :: l).Pairwise (· ≤ ·)
  | [], p, _ => List.pairwise_singleton _ _
  | c :: r, p, h => by
    simp only [List.map_cons, risingS, Bool.and_eq_true] at h
    have h2 := rising_signs r c h.2
    have h1 : p ≤ c := by
      have := h.1
      simp only [sgn, ltCps_signs] at this
      simpa using this
    refine List.pairwise_cons.mpr ⟨fun b hb => ?_, h2⟩
    rcases List.mem_cons.mp hb with rfl | hb
    · exact h1
    · exact Nat.le_trans h1 ((List.pairwise_cons.mp h2).1 b hb)
theorem signs_of_perm {ss : List Str} {st : List Nat} (h : ss.Perm (st.map sgn)) : ∃ l : List Nat, ss = l.map sgn ∧ l.Perm st := by
  have hc : ∀ x ∈ ss, sgn (x.cps.getD 0 0) = x := fun x hx => by
    obtain ⟨c, _, rfl⟩ := List.mem_map.mp (h.subset hx)
    simp [sgn]
  refine ⟨ss.map fun x => x.cps.getD 0 0, ?_, ?_⟩
  · rw [List.map_map]
    exact ((List.map_congr_left (g := _root_.id) fun x hx => hc x hx).trans (List.map_id _)).symm
  · have := h.map fun x => x.cps.getD 0 0
    rw [List.map_map] at this
    have e : st.map ((fun x => x.cps.getD 0 0) ∘ sgn) = st := (List.map_congr_left (g := _root_.id) fun c _ => by simp [sgn]).trans (List.map_id _)
    rw [e] at this
    exact this
/-- signs that fall, sorted and turned, are themselves -/
theorem sorted_desc {ss : List Str} {st : List Nat} (h : ss.Perm (st.map sgn)) (hs : sortedS ss = true) (hd : Desc st) : ss.reverse = st.map sgn := by
  obtain ⟨l, rfl, hp⟩ := signs_of_perm h
  have hr : l.Pairwise (· ≤ ·) := by
    cases l with
    | nil => exact .nil
    | cons p r => exact rising_signs r p hs
  have hr' : l.reverse.Pairwise (fun a b => b ≤ a) := List.pairwise_reverse.mpr hr
  have e : l.reverse = st := List.Perm.eq_of_pairwise (le := fun a b => b ≤ a) (fun a b _ _ h1 h2 => Nat.le_antisymm h2 h1) hr' hd ((List.reverse_perm l).trans hp)
  rw [← List.map_reverse, e]
theorem strs_rev : ∀ {vs : List Value} {ss : List Str}, StrsAre vs ss → StrsAre vs.reverse ss.reverse
  | _, _, .nil => .nil
  | _, _, .cons x t r => by
    rw [List.reverse_cons, List.reverse_cons]
    exact strs_snoc9 (strs_rev r)
theorem strs_dat (news : Led) : ∀ {vs : List Value} {ss : List Str}, StrsAre vs ss → DatAll news vs (ss.map Dat.str)
  | _, _, .nil => .nil
  | _, _, .cons x t r => .cons (.str x t) (strs_dat news r)
theorem sgn_ok {c : Nat} (h : c < 128) : kqdOk 8 (Dat.str (sgn c)) = true := by
  simp [kqdOk, PyData.strOk, sgn]
  omega
open Classical in
/-- two lists of the same signs are not unlike -/
theorem ne_signs {prog : Program} {w : World} {A : Around} {E : Value → Shared → Prop} {s : Shared} {h₀ : Heap} {L : Addr} {news : Led} {a b : Addr} {n n' : Nat} {xs ys : List Value} {st : List Nat} {Q : Value → Shared → Prop}
    (N : News h₀ L s.heap news) (ma : (a, listOf xs.toArray n) ∈ news) (mb : (b, listOf ys.toArray n') ∈ news) (hx : StrsAre xs (st.map sgn)) (hy : StrsAre ys (st.map sgn)) (hl : ∀ c ∈ st, c < 128) (hu : A.units + 64 < cLine) (h : Q (.bool false) s) :
    wpAny (model prog w) A (compareOp .NotEq (.ref a) (.ref b)) Q E s := by
  have ok : ∀ d ∈ (st.map sgn).map Dat.str, kqdOk 8 d = true := by
    intro d hd
    obtain ⟨x, hx, rfl⟩ := List.mem_map.mp hd
    obtain ⟨c, hc, rfl⟩ := List.mem_map.mp hx
    exact sgn_ok (hl c hc)
  exact kqd_ne N ma rfl rfl (strs_dat [] hx) (fun _ h => nomatch h) mb rfl rfl (strs_dat [] hy) (fun _ h => nomatch h) ok ok hu (by rw [decide_eq_true rfl]; exact h)
end
section
theorem start_led {w : World} {h₀ h : Heap} {L : Addr} {cS x dx ao ah aw D lz : Nat} {oc oh oz oD : Obj} {vs : List Value} {n : Int} {a0 a1 a2 a3 a4 a5 a6 a7 a8 a9 b0 b1 tf : Tok} {own : Led}
    (N : News h₀ L h ((aw, listOf #[] 0) :: (ah, oh) :: (ao, listOf vs.toArray 0) :: (lz, oz) :: (x, instObj 54 dx) :: (dx, dictOf
      [⟨PyData.keyHash w.params (Str.ofString "size"), .str (Str.ofString "size") a0, .int n a1⟩,
       ⟨PyData.keyHash w.params (Str.ofString "octets"), .str (Str.ofString "octets") a2, .ref ao⟩,
       ⟨PyData.keyHash w.params (Str.ofString "low"), .str (Str.ofString "low") a3, .int 0 a4⟩,
       ⟨PyData.keyHash w.params (Str.ofString "free"), .str (Str.ofString "free") a5, .int n tf⟩,
       ⟨PyData.keyHash w.params (Str.ofString "held"), .str (Str.ofString "held") a6, .ref ah⟩,
       ⟨PyData.keyHash w.params (Str.ofString "waiting"), .str (Str.ofString "waiting") a7, .ref aw⟩,
       ⟨PyData.keyHash w.params (Str.ofString "most_waiting"), .str (Str.ofString "most_waiting") a8, .int n a9⟩,
       ⟨PyData.keyHash w.params (Str.ofString "collections"), .str (Str.ofString "collections") b0, .int 0 b1⟩] 8) :: (D, oD) :: (cS, oc) :: own)) :
    ∃ k : Nat → Tok, News h₀ L h ((cS, oc) :: spLed w n n tf x dx ao ah aw k vs 0 [] 0 ((ah, oh) :: (lz, oz) :: (D, oD) :: own)) := by
  refine ⟨fun i => match i with | 0 => a0 | 1 => a1 | 2 => a2 | 3 => a3 | 4 => a4 | 5 => a5 | 6 => a6 | 7 => a7 | 8 => a8 | 9 => a9 | 10 => b0 | _ => b1, fun p hp => N p ?_⟩
  rcases List.mem_cons.mp hp with rfl | hp
  · exact .tail _ (.tail _ (.tail _ (.tail _ (.tail _ (.tail _ (.tail _ (.head _)))))))
  rcases List.mem_cons.mp hp with rfl | hp
  · exact .tail _ (.tail _ (.tail _ (.tail _ (.head _))))
  rcases List.mem_cons.mp hp with rfl | hp
  · exact .tail _ (.tail _ (.tail _ (.tail _ (.tail _ (.head _)))))
  rcases List.mem_cons.mp hp with rfl | hp
  · exact .tail _ (.tail _ (.head _))
  rcases List.mem_cons.mp hp with rfl | hp
  · exact .head _
  rcases List.mem_cons.mp hp with rfl | hp
  · exact .tail _ (.head _)
  rcases List.mem_cons.mp hp with rfl | hp
  · exact .tail _ (.tail _ (.tail _ (.head _)))
  rcases List.mem_cons.mp hp with rfl | hp
  · exact .tail _ (.tail _ (.tail _ (.tail _ (.tail _ (.tail _ (.head _))))))
  exact .tail _ (.tail _ (.tail _ (.tail _ (.tail _ (.tail _ (.tail _ (.tail _ hp)))))))
theorem zeros_len (n : Nat) : ((List.replicate n [(0 : Int)]).flatten).length = n := by
  induction n with
  | zero => rfl
  | succ n ih => rw [List.replicate_succ, List.flatten_cons, List.length_append, ih]; simp; omega
local macro_rules | `(tactic| walk_at "call ref") => `(tactic| (k_here; (first | (with_reducible show wpAny _ _ (call (Value.ref 68) _) _ _ _) | (with_reducible show wpAny _ _ (call (Value.ref 120) _) _ _ _) | (with_reducible show wpAny _ _ (call (Value.ref 127) _) _ _ _)); refine Stop.out ?_))
local macro_rules | `(tactic| walk_at "pyIter ref") => `(tactic| (k_here; (with_reducible show wpAny _ _ (pyIter (Value.ref _)) (fun it s₂ => LoopAtV _ _ _ _ _ _ _ _ _ it s₂) _ _); refine Stop.out ?_))
local macro_rules | `(tactic| walk_at "exec For Name Call cons nil") => `(tactic| (k_here; (rename Fr _ _ _ _ => lF'); (with_unfolding_all refine' For_invVF lF' ?k1 ?k2 ?_; (case k1 => exact rfl); (case k2 => exact rfl); k_whole)))
local macro_rules | `(tactic| walk_at "compareOp NotEq ref ref") => `(tactic| (k_here; (with_reducible show wpAny _ _ (compareOp CmpOp.NotEq (Value.ref _) (Value.ref _)) _ _ _); k_dflt (refine' ne_len ?a ?b ?c ?u ?_; (case a => exact News.get (by k_asm) (by k_mem)); (case b => exact News.get (by k_asm) (by k_mem)); (case c => (simp; done)); (case u => ktr_units))))
local macro_rules | `(tactic| walk_at "subscriptTail") => `(tactic| (k_here; (with_reducible show wpAny _ _ (subscriptTail _ _ (Value.ref _) (Value.int _ _)) _ _ _); k_dflt (refine' last_item ?N ?m ?k ?_ ?s ?g; (case N => k_asm); (case m => k_mem); (case k => rfl); (case s => with_unfolding_all rfl); (case g => (intro _; with_unfolding_all rfl)))))
local macro_rules | `(tactic| walk_at "binaryOp Add str str") => `(tactic| (k_here; refine SBL.add (hsz := add_room (by assumption)) ?_; intro _ _))
local macro_rules | `(tactic| walk_at "exec Assign cons ListComp") => `(tactic| (k_here; k_dflt (refine LCg.Assign_ListComp_U (F₀ := by k_asm) (by rfl) (by with_unfolding_all rfl) (by with_unfolding_all rfl) (by decide) (by rfl) (by decide) (by rfl) (by rfl) (by rfl) ?_)))
local macro_rules | `(tactic| walk_at "call builtin:sorted") => `(tactic| (k_here; refine Stop.out ?_))
local macro_rules | `(tactic| walk_at "compareOp NotEq ref ref") => `(tactic| (k_here; (rename StrsAre _ _ => hS9); refine Stop.out ?_))
local macro_rules | `(tactic| walk_at "CompSrc") => `(tactic| (k_here; refine Stop.out ?_))
local macro_rules | `(tactic| walk_at "subscriptTail Name Slice ref ref") => `(tactic| (k_here; (with_reducible show wpAny _ _ (subscriptTail _ (PySem.Expr.Slice none none (some _) _) (Value.ref _) (Value.ref _)) _ _ _); k_dflt (refine' krv_lit ?F ?N ?l ?k rfl ?_ ?s ?t ?z; (case F => k_asm); (case N => k_asm); (case l => exact News.isList (by k_asm) (by k_mem)); (case k => exact IsPart.int _ _); (case s => with_unfolding_all rfl); (case t => kmk_pure); (case z => (rw [List.size_toArray, PySem.sizeLine_eq]; omega))); intro D' h' F' N' l1; (try k_lt l1); (try k_sweep)))
set_option maxRecDepth 100000 in
set_option maxHeartbeats 8000000 in
theorem through_con (w : World) (mean : ExcName → Option Value) (mg mb : Str → Option Value) (word : Str) (tw : Tok) (own : Led) (hn : word.length ≤ 5) (hl : ∀ c ∈ word.cps.toList, c < 128) :
   Con w mean mg mb 144 20 300 own [.str word tw] (fun v led' => (∃ t, v = .str (throughF word) t) ∧ led' = own) := by
  unfold Con
  k_fill
  intro dp un gd cn cs a ccd cl outer A₀ base h₀ L m s Q E hB F X N T hk hd hu hret
  refine wpAny_call ?_
  k_dflt k_enter
  have hMark := kstMark
  refine gen_wp (fun Q9 hQ9 => ?_)
  k_steps
  rename News _ _ _ (_ :: _) => N9
  obtain ⟨kk, N1⟩ := start_led N9
  rename Fr _ _ _ _ => F9
  rename _ ∧ _ ∧ _ ∧ _ ∧ _ ∧ _ ∧ _ ∧ AllLt _ own => l9
  rename IntsAre _ _ => hI9
  rename ∀ p ∈ own, p.1 < _ => lo9
  refine' th_word (word := word) (n := word.length) hl rfl rfl F9 N1 hI9 ?hz ?ho ?hf ?turn ?done
  case hz => exact zeros_len _
  case hf => exact rfl
  case ho =>
    intro p hp b hb
    simp only [List.mem_cons, List.not_mem_nil, or_false] at hp hb
    rcases hp with rfl | rfl | rfl | rfl | hp
    · rcases hb with rfl | rfl | rfl | rfl <;> (refine neN ?_; dsimp only; omega)
    · rcases hb with rfl | rfl | rfl | rfl <;> (refine neN ?_; dsimp only; omega)
    · rcases hb with rfl | rfl | rfl | rfl <;> (refine neN ?_; dsimp only; omega)
    · rcases hb with rfl | rfl | rfl | rfl <;> (refine neN ?_; dsimp only; omega)
    · have hq := ltN (lo9 p hp)
      rcases hb with rfl | rfl | rfl | rfl <;> (refine neN ?_; omega)
  · -- [turn]
    clear hret N9 hI9 F9 N1
    intro i c u um tf tq octs ns no ws nw pl ow h tk hi hc hcc hI hz hP hO ho hsub ho2 F1 N1
    delta thMap at F1
    dsimp only [spLed] at N1
    k_sweep
    k_steps
    unfold Stop
    rename IsRange _ _ _ _ _ _ _ _ => rg9
    rename Fr _ _ _ _ => F2
    rename News _ _ _ (_ :: _) => N2
    have hO0 := hO
    refine' th_off (popOnce c) (fun i' q => q = itK c i' (wq word word.length i)) (fun i' q e => by rw [e]; rfl) rfl rg9 hn F2 N2 hP hO rfl rfl ?_ ?_
    · -- [inner]
      (try clear F1); (try clear N1); clear F2 N2 hP hO
      intro i' ki t q tf2 tq2 ws2 nw2 h2 tk2 ow2 hi' _ hP hO ho3 F1 N1
      dsimp only [spLed] at N1
      obtain ⟨st, fd⟩ := q
      rcases split_last st with rfl | ⟨r, tp, rfl⟩
      · have := Pile.empty hP
        subst this
        k_steps
        rename Fr _ _ _ _ => F3
        rename News _ _ _ (_ :: _) => N3
        exact th_end F3 N3 (fun p9 h9 => .tail _ (sub5 (fun _ h => List.mem_append_left _ h) p9 h9)) (fun p9 h9 => .tail _ (.tail _ (.tail _ (.tail _ (.tail _ (.tail _ (List.mem_append_right _ h9))))))) rfl hP hO rfl rfl (fun z h1 h2 => by simp only [if_neg h1, if_neg h2])
      · obtain ⟨ws3, p, ti, tj, rfl, hP3, hm3, hp3, hns⟩ := Pile.top hP
        obtain ⟨tc, hoc⟩ := hI.get _ _ hns
        have hlow := hO.low tp (List.mem_append_right _ (.head _))
        have hlen : (r ++ [tp]).length = r.length + 1 := by simp
        have hln := hO.len
        have hrn := hP.2.1
        dsimp only at N1 hln hrn
        rw [hlen] at N1 hln hrn
        have hfd : fd.length ≤ 5 := by omega
        k_steps
        unfold Stop
        rename News _ _ _ (_ :: _) => N3
        refine' text_at_con _ _ _ _ _ _ _ _ _ _ _ _ _ _ _ _ _ _ _ _ _ _ _ _ _ ?hz ?hcc ?hc _ _ _ _ _ _ _ _ _ _ _ _ _ _ _ _ _ ?k1 ?k2 ?k3 ?k4 ?k5 ?kK ?kd ?ku ?kR
        (case k1 => k_asm); (case k2 => k_asm); (case k3 => k_asm); (case k4 => exact news_sp N3 (List.mem_append_left _ (List.mem_append_left _ hm3))); (case k5 => k_asm); (case kK => first | exact rfl | assumption)
        (case hz => rw [IntsAre.length hI]; omega); (case hcc => exact hlow); (case hc => exact hoc); (case kd => ktr_room); (case ku => ktr_units)
        intro v9 led9 h9 tk9 r9 F9 N9
        obtain ⟨⟨t9, e9⟩, e9'⟩ := r9
        subst e9 e9'
        replace N9 := news_back N9
        clear N3
        (try dsimp only)
        k_steps
        · unfold Stop
          rename (_ : List Nat) < _ => hlt9
          have hlt : tp < c := (lt_signs tp c).mp hlt9
          rename News _ _ _ (_ :: _) => N3
          refine' pop_con _ _ _ _ _ _ _ _ _ _ _ _ _ _ _ _ _ _ _ _ _ _ _ _ ?phz ?phcc ?phc ?phw ?po1 ?po2 ?po3 ?po4 ?pho _ _ _ _ _ _ _ _ _ _ _ _ _ _ _ _ _ ?pk1 ?pk2 ?pk3 ?pk4 ?pk5 ?pkK ?pkd ?pku ?pkR
          (case pk1 => k_asm); (case pk2 => k_asm); (case pk3 => k_asm); (case pk4 => exact news_sp0 N3 (List.mem_append_left _ (List.mem_append_left _ hm3))); (case pk5 => k_asm); (case pkK => first | exact rfl | assumption)
          (case phz => rw [IntsAre.length hI]; omega); (case phcc => exact hlow); (case phc => exact hoc); (case phw => rw [hP3.1]; omega); (case po1 => omega); (case po2 => omega); (case po3 => omega); (case po4 => exact hp3)
          (case pho => exact off_app (a := _ :: (pl ++ ow)) ho (off_own ho3)); (case pkd => ktr_room); (case pku => ktr_units)
          intro v8 led8 h8 tk8 r8 F8 N8
          obtain ⟨t8, tf8, nw8, e8, e8'⟩ := r8
          subst e8 e8'
          replace N8 := news_back0 N8
          clear N3
          (try dsimp only)
          k_steps
          rw [popOnce_lt hlt]
          have hO2 := hO.once (c := c)
          rw [popOnce_lt hlt] at hO2
          rename Fr _ _ _ _ => F3
          rename News _ _ _ (_ :: _) => N3
          exact th_end F3 N3 (sub5 (fun _ h => List.mem_append_left _ h)) (fun p9 h9 => .tail _ (.tail _ (.tail _ (.tail _ (.tail _ (List.mem_append_right _ h9)))))) (by dsimp only; omega) hP3 hO2 rfl (txt_snoc fd tp) (fun z h1 h2 => by simp only [if_neg h1, if_neg h2])
        · rename ¬ (_ : List Nat) < _ => hlt9
          have hlt : ¬ tp < c := fun h => hlt9 ((lt_signs tp c).mpr h)
          rw [popOnce_ge hlt]
          rename Fr _ _ _ _ => F3
          rename News _ _ _ (_ :: _) => N3
          exact th_end F3 N3 (sub5 (fun _ h => List.mem_append_left _ h)) (fun p9 h9 => .tail _ (.tail _ (.tail _ (.tail _ (.tail _ (List.mem_append_right _ h9)))))) (by dsimp only; omega) hP hO rfl rfl (fun z h1 h2 => by simp only [if_neg h1, if_neg h2])
      -- [/inner]
    · -- [push]
      (try clear F1); (try clear N1); clear F2 N2 hP hO
      intro um2 q tf3 tq3 ws3 nw3 h3 tk3 hq hP hO F1 N1
      dsimp only [spLed] at N1
      have hln := hO.len
      have hfr : ((word.length - q.1.length : Nat) : Int) = ((word.length - 1 - q.1.length : Nat) : Int) + 1 := by omega
      rw [hfr] at N1
      k_steps
      unfold Stop
      rename News _ _ _ (_ :: _) => N3
      refine' push_con _ _ _ _ _ _ _ _ _ _ _ _ _ _ _ _ _ _ _ _ _ ?qI ?qz ?qcc ?qf ?qw ?qn ?qo1 ?qo2 ?qo3 ?qo _ _ _ _ _ _ _ _ _ _ _ _ _ _ _ _ _ ?q1 ?q2 ?q3 ?q4 ?q5 ?qK ?qd ?qu ?qR
      (case q1 => k_asm); (case q2 => k_asm); (case q3 => k_asm); (case q4 => exact news_cell N3); (case q5 => k_asm); (case qK => first | exact rfl | assumption)
      (case qI => exact hI); (case qz => omega); (case qcc => exact hcc); (case qf => omega); (case qw => rw [hP.1]; omega); (case qn => omega); (case qo1 => omega); (case qo2 => omega); (case qo3 => omega); (case qo => exact ho); (case qd => ktr_room); (case qu => ktr_units)
      intro v8 led8 h8 tk8 r8 F8 N8
      obtain ⟨e8, p8, ti8, tj8, tf8, oc8, nw8, hI8, e8', hp8, hlt8⟩ := r8
      subst e8 e8'
      replace N8 := cell_back N8
      clear N3
      have hP8 := hP.push (c := c) (ti := ti8) (tj := tj8) hz (by omega) hp8
      (try dsimp only)
      k_steps
      unfold Stop
      have hP9 := hP8.mono (pl' := (p8, listOf #[.int ((word.length - 1 - q.1.length : Nat) : Int) ti8, .int 1 tj8] 0) :: (pl ++ ow)) (fun _ h => (List.mem_cons.mp h).elim (fun e => e ▸ .head _) fun h => .tail _ (List.mem_append_left _ h))
      have hO9 := hO.low
      have hwl := hP.1
      refine LCg.CompSrc.ledger (by rfl) (by k_asm) (by k_asm) (by k_mem) (by rw [List.size_toArray, List.length_append, PySem.sizeLine_eq]; simp only [List.length_cons, List.length_nil]; omega) ?_
      intro g9
      have hsz : (ws3 ++ [Value.ref p8]).toArray.size = (q.1 ++ [c]).length := by simp [hwl]
      rw [hsz]
      refine comp_signs (q.1 ++ [c]) ?_ ?_
      · intro i2 c2 v2 I2 oI2 C2 oC2 D2 m22 ys2 h2 tk2 E2 hst2 hv2 hC2 hx2 F2 N2 off2 ne2
        obtain ⟨ha2, p2, ti2, tj2, hw2, hm2, hp2⟩ := hP9.2.2 i2 c2 hst2
        have hv : v2 = .ref p2 := by
          have e1 : (ws3 ++ [Value.ref p8])[i2]? = some v2 := by simpa using hv2
          rw [hw2] at e1
          exact (Option.some.inj e1).symm
        subst hv
        obtain ⟨tc2, hoc2⟩ := hI8.get _ _ ha2
        have hlow2 : c2 < 128 := by
          rcases List.mem_append.mp (List.mem_of_getElem? hst2) with h | h
          · exact hO9 c2 h
          · rw [List.mem_singleton.mp h]; exact hcc
        k_steps
        unfold Stop
        refine' text_at_con _ _ _ _ _ _ _ _ _ _ _ _ _ _ _ _ _ _ _ _ _ _ _ _ _ ?rz ?rcc ?rc _ _ _ _ _ _ _ _ _ _ _ _ _ _ _ _ _ ?r1 ?r2 ?r3 ?r4 ?r5 ?rK ?rd ?ru ?rR
        (case r1 => k_asm); (case r2 => k_asm); (case r3 => k_asm)
        (case r4 => refine' news_dup5 N2 ?_ ?_ ?_ ?_ (.tail _ (.tail _ (.tail _ (.tail _ (.tail _ (.tail _ (.tail _ (.tail _ hm2)))))))); (k_mem); (k_mem); (k_mem); (k_mem))
        (case r5 => k_asm); (case rK => first | exact rfl | assumption)
        (case rz => rw [IntsAre.length hI8, List.length_set]; omega); (case rcc => exact hlow2); (case rc => exact hoc2); (case rd => ktr_room); (case ru => ktr_units)
        intro v9 led9 h9 tk9 r9 F9 N9
        obtain ⟨⟨t9, e9⟩, e9'⟩ := r9
        subst e9 e9'
        replace N9 := news_undup5 N9
        clear N2
        (try dsimp only)
        k_steps
      · intro ys hys
        have hstep : stepF word.length (wq word word.length i) c = (q.1 ++ [c], q.2) := by
          unfold stepF
          rw [← itK_popK, ← hq]
        have hOs : Ok (i + 1) (q.1 ++ [c], q.2) := hstep ▸ hO0.step (n := word.length) (by omega) hcc
        have hyl : ys.length = q.1.length + 1 := by have := hys.length; simpa using this
        have hq5 : q.1.length ≤ 4 := by omega
        k_steps
        unfold Stop
        refine sorted_N_str (by k_asm) (by k_asm) (News.isList (by k_asm) (by k_mem)) hys (by omega) ?_
        intro h9 vs9 ss9 e9 F9 N9 hv9 hp9 hs9
        have hvl : vs9.length = q.1.length + 1 := by
          have h1 := hv9.length
          have h2 := hp9.length_eq
          simp only [List.length_map, List.length_append, List.length_cons, List.length_nil] at h2
          omega
        have hrev : ss9.reverse = (q.1 ++ [c]).map sgn := sorted_desc (show ss9.Perm ((q.1 ++ [c]).map sgn) from hp9) hs9 hOs.desc
        (try dsimp only)
        k_steps
        unfold Stop
        rename News _ _ _ (_ :: _) => N3
        rename StrsAre vs9 _ => hv9
        refine ne_signs (st := q.1 ++ [c]) N3 (by k_mem) (by k_mem) hys (hrev ▸ strs_rev hv9) hOs.low (by ktr_units) ?_
        (try dsimp only)
        k_steps
        · exfalso
          omega
        · rename Fr _ _ _ _ => F3
          rename News _ _ _ (_ :: _) => N3
          refine th_wend (pl := (p8, listOf #[.int ((word.length - 1 - q.1.length : Nat) : Int) ti8, .int 1 tj8] 0) :: pl) F3 N3 (fun p9 h9 => .tail _ (.tail _ (.tail _ (sub5 (sub_head fun _ h => List.mem_append_left _ h) p9 h9)))) ?_ ((wq_succ hc).trans hstep) ?_ hI8 (by rw [List.length_set]; exact hz) hP8 hOs ?_ (fun p h => .tail _ (hsub p h)) ?_ rfl (fun z h1 h2 h3 h4 => by simp only [if_neg h1, if_neg h2, if_neg h3, if_neg h4])
          · exact fun p9 h9 => .tail _ (.tail _ (.tail _ (.tail _ (.tail _ (.tail _ (.tail _ (.tail _ (.tail _ (List.mem_append_right _ h9)))))))))
          · simp only [List.length_append, List.length_cons, List.length_nil]
            omega
          · refine off_cons (ho _ (.head _)) (off_cons ?_ fun p h => ho p (.tail _ (List.mem_append_left _ h)))
            intro b hb
            simp only [List.mem_cons, List.not_mem_nil, or_false] at hb
            rcases hb with rfl | rfl | rfl | rfl <;> (refine neN ?_; dsimp only; omega)
          · intro p hp b hb
            have hpl := ltN (hlt8 p (.tail _ (List.mem_append_right _ hp)))
            rcases List.mem_cons.mp hb with rfl | hb
            · exact ho2 p hp _ (.head _)
            rcases List.mem_cons.mp hb with rfl | hb
            · exact ho2 p hp _ (.tail _ (.head _))
            rcases List.mem_cons.mp hb with rfl | hb
            · exact ho2 p hp _ (.tail _ (.tail _ (.head _)))
            rcases List.mem_cons.mp hb with rfl | hb
            · exact ho2 p hp _ (.tail _ (.tail _ (.tail _ (.head _))))
            rcases List.mem_cons.mp hb with rfl | hb
            · exact ho2 p hp _ (.tail _ (.tail _ (.tail _ (.tail _ (.head _)))))
            rcases List.mem_cons.mp hb with rfl | hb
            · exact Nat.ne_of_lt hpl
            · exact ho2 p hp _ (.tail _ (.tail _ (.tail _ (.tail _ (.tail _ hb)))))
      -- [/push]
    -- [/turn]
  · -- [end]
    clear N9 hI9 F9 N1
    intro um tf tq octs ns no ws nw pl h tk hI hz hP hO ho hsub F1 N1
    delta thMap at F1
    dsimp only [spLed] at N1
    have hwl := hP.1
    have hwn := hP.2.1
    have hI2 := hI
    k_sweep
    k_steps
    unfold Stop
    rename IsRange _ _ _ _ _ _ _ _ => rg9
    rename Fr _ _ _ _ => F2
    rename News _ _ _ (_ :: _) => N2
    have hq0 := hO.len
    have hws5 : ws.length ≤ 5 := by omega
    refine' th_off popTop (fun i' q => q = itT i' (wq word word.length word.length)) (fun i' q e => by rw [e]; rfl) rfl rg9 hws5 F2 N2 hP hO rfl rfl ?_ ?_
    · -- [off]
      (try clear F1); (try clear N1); clear F2 N2 hP hO
      intro i' ki t q tf2 tq2 ws2 nw2 h2 tk2 ow2 hi' hqe hP hO ho3 F1 N1
      dsimp only [spLed] at N1
      have hql : q.1.length = (wq word word.length word.length).1.length - i' := by rw [hqe]; exact itT_len _ _
      clear hqe
      obtain ⟨st, fd⟩ := q
      rcases split_last st with rfl | ⟨r, tp, rfl⟩
      · exfalso
        simp only [List.length_nil] at hql
        omega
      · obtain ⟨ws3, p, ti, tj, rfl, hP3, hm3, hp3, hns⟩ := Pile.top hP
        obtain ⟨tc, hoc⟩ := hI.get _ _ hns
        have hlow := hO.low tp (List.mem_append_right _ (.head _))
        have hlen : (r ++ [tp]).length = r.length + 1 := by simp
        have hln := hO.len
        have hrn := hP.2.1
        dsimp only at N1 hln hrn
        rw [hlen] at N1 hln hrn
        have hfd : fd.length ≤ 5 := by omega
        k_steps
        unfold Stop
        rename News _ _ _ (_ :: _) => N3
        refine' pop_con _ _ _ _ _ _ _ _ _ _ _ _ _ _ _ _ _ _ _ _ _ _ _ _ ?xphz ?xphcc ?xphc ?xphw ?xpo1 ?xpo2 ?xpo3 ?xpo4 ?xpho _ _ _ _ _ _ _ _ _ _ _ _ _ _ _ _ _ ?xpk1 ?xpk2 ?xpk3 ?xpk4 ?xpk5 ?xpkK ?xpkd ?xpku ?xpkR
        (case xpk1 => k_asm); (case xpk2 => k_asm); (case xpk3 => k_asm); (case xpk4 => exact news_sp0 N3 (List.mem_append_left _ hm3)); (case xpk5 => k_asm); (case xpkK => first | exact rfl | assumption)
        (case xphz => rw [IntsAre.length hI]; omega); (case xphcc => exact hlow); (case xphc => exact hoc); (case xphw => rw [hP3.1]; omega); (case xpo1 => omega); (case xpo2 => omega); (case xpo3 => omega); (case xpo4 => exact hp3)
        (case xpho => exact off_app (a := _ :: pl) ho (off_own ho3)); (case xpkd => ktr_room); (case xpku => ktr_units)
        intro v8 led8 h8 tk8 r8 F8 N8
        obtain ⟨t8, tf8, nw8, e8, e8'⟩ := r8
        subst e8 e8'
        replace N8 := news_back0 N8
        clear N3
        (try dsimp only)
        k_steps
        rw [popTop_eq]
        have hO2 := Ok.top hO
        rename Fr _ _ _ _ => F3
        rename News _ _ _ (_ :: _) => N3
        exact th_end F3 N3 (sub5 (fun _ h => List.mem_append_left _ h)) (fun p9 h9 => .tail _ (.tail _ (.tail _ (.tail _ (.tail _ (List.mem_append_right _ h9)))))) (by dsimp only; omega) hP3 hO2 rfl (txt_snoc fd tp) (fun z h1 h2 => by simp only [if_neg h1, if_neg h2])
      -- [/off]
    · -- [ret]
      (try clear F1); (try clear N1); clear F2 N2
      intro um2 q tf3 tq3 ws3 nw3 h3 tk3 hqe hP3 hO3 F1 N1
      dsimp only [spLed] at N1
      have hqa : q = ([], (wq word word.length word.length).2 ++ (wq word word.length word.length).1.reverse) := by
        rw [hqe, show ws.length = (wq word word.length word.length).1.length from hwl]
        exact itT_all _ _
      clear hqe
      subst hqa
      have hwe : ws3 = [] := Pile.empty hP3
      subst hwe
      dsimp only [List.length_nil] at N1 F1
      k_steps
      · show Q9 (Flow.ret _) _
        rw [hQ9]
        (try dsimp only)
        k_steps
        rename News _ _ _ (_ :: _) => N3
        refine hret _ _ _ _ ⟨⟨_, by rw [throughF_eq]⟩, rfl⟩ (by k_asm) (fun p9 h9 => N3 p9 ?_)
        exact .tail _ (.tail _ (.tail _ (.tail _ (.tail _ (by first | exact hsub p9 (.tail _ (.tail _ (.tail _ h9))) | exact .tail _ (hsub p9 (.tail _ (.tail _ (.tail _ h9)))))))))
      · exfalso
        rename (_ : Int) ≠ _ => hne9
        exact hne9 (by omega)
      -- [/ret]
    -- [/end]
end
section
/-- the greatest sign of a text, its first place, and West's rule on texts -/
def mxL (l : List Nat) : Nat := l.foldl Nat.max 0
def atL (l : List Nat) : Nat := l.findIdx (· == mxL l)
def dueL : Nat → List Nat → List Nat
  | 0, _ => []
  | _ + 1, [] => []
  | k + 1, c :: l => dueL k ((c :: l).take (atL (c :: l))) ++ dueL k ((c :: l).drop (atL (c :: l) + 1)) ++ [mxL (c :: l)]
theorem foldl_max_ge : ∀ (l : List Nat) (a : Nat), a ≤ l.foldl Nat.max a ∧ (∀ d ∈ l, d ≤ l.foldl Nat.max a) ∧ (l.foldl Nat.max a = a ∨ l.foldl Nat.max a ∈ l)
  | [], a => ⟨Nat.le_refl _, fun _ h => (nomatch h), .inl rfl⟩
  | c :: r, a => by
    obtain ⟨h1, h2, h3⟩ := foldl_max_ge r (Nat.max a c)
    have ha : a ≤ Nat.max a c := Nat.le_max_left a c
    have hc : c ≤ Nat.max a c := Nat.le_max_right a c
    refine ⟨Nat.le_trans ha h1, fun d hd => ?_, ?_⟩
    · rcases List.mem_cons.mp hd with rfl | hd
      · exact Nat.le_trans hc h1
      · exact h2 d hd
    · show (r.foldl Nat.max (Nat.max a c) = a) ∨ (r.foldl Nat.max (Nat.max a c) ∈ c :: r)
      rcases h3 with h3 | h3
      · rw [h3]
        rcases Nat.le_total a c with h | h
        · exact .inr (by rw [show Nat.max a c = c from Nat.max_eq_right h]; exact .head _)
        · exact .inl (Nat.max_eq_left h)
      · exact .inr (.tail _ h3)
theorem mxL_eq {l : List Nat} {c : Nat} (h : c ∈ l) (hm : ∀ d ∈ l, d ≤ c) : mxL l = c := by
  obtain ⟨_, h2, h3⟩ := foldl_max_ge l 0
  refine Nat.le_antisymm ?_ (h2 c h)
  rcases h3 with h3 | h3
  · show l.foldl Nat.max 0 ≤ c
    rw [h3]; exact Nat.zero_le _
  · exact hm _ h3
theorem mxL_mem {l : List Nat} (h : l ≠ []) : mxL l ∈ l := by
  obtain ⟨_, h2, h3⟩ := foldl_max_ge l 0
  rcases h3 with h3 | h3
  · cases l with
    | nil => exact absurd rfl h
    | cons c r =>
      have := h2 c (.head _)
      have hc : c = 0 := by have e : List.foldl Nat.max 0 (c :: r) = 0 := h3; omega
      show List.foldl Nat.max 0 (c :: r) ∈ c :: r
      rw [h3, hc]; exact .head _
  · exact h3
theorem atL_lt {l : List Nat} (h : l ≠ []) : atL l < l.length := List.findIdx_lt_length_of_exists ⟨mxL l, mxL_mem h, by simp⟩
theorem atL_get {l : List Nat} (h : l ≠ []) : l[atL l]? = some (mxL l) := by
  have h1 := atL_lt h
  rw [List.getElem?_eq_getElem h1]
  have := List.findIdx_getElem (w := h1) (p := (· == mxL l))
  exact congrArg some (eq_of_beq this)
section
variable {prog : Program} {w : World} {A : Around} {E : Value → Shared → Prop} {s : Shared} {h₀ : Heap} {L : Addr} {m : Str → Option Value} {news : Led} {Q : Value → Shared → Prop}
theorem signs_gt {x : Str} : CmpOf prog w A .Gt (SignAt x) (fun i j => decide (((x.cps.getD i 0 : Nat) : Int) > ((x.cps.getD j 0 : Nat) : Int))) := fun i j vi vj s Q E hi hj h => by
  obtain ⟨c, t, hc, rfl⟩ := hi
  obtain ⟨d, u, hd, rfl⟩ := hj
  refine richCompare_gives (op := .Gt) (typeIs_str s _ t) (typeIs_str s _ u) PySem.F.slot_str_gt PySem.F.entry_str_gt (PySem.F.args_str_gt_2 _ _) (gives_str_gt _ _ t u) (fun x => nomatch x) ?_
  have e : decide ((⟨#[d]⟩ : Str).cps.toList < (⟨#[c]⟩ : Str).cps.toList) = decide (((x.cps.getD i 0 : Nat) : Int) > ((x.cps.getD j 0 : Nat) : Int)) := by
    rw [Array.getD_eq_getD_getElem?, Array.getD_eq_getD_getElem?, hc, hd]
    refine decide_eq_decide.mpr ((lt_signs d c).trans ?_)
    simp only [Option.getD_some]
    omega
  show Q (.bool (decide _)) s
  rw [e]
  exact h
/-- max of a text of signs below 128 -/
theorem max_text {word : Str} {tw : Tok} (hh : A.handled = none) (ha : ∀ c ∈ word.cps.toList, c < 128) (hne : word.cps.toList ≠ []) (F : Fr h₀ L s.heap m) (N : News h₀ L s.heap news)
    (h : ∀ h' t tk, Fr h₀ L h' m → News h₀ L h' news → Q (.str ⟨#[mxL word.cps.toList]⟩ t) { s with heap := h', toks := tk }) :
    wpAny (model prog w) A (call (.builtin "max") [.str word tw]) Q E s := by
  have ha' : (word.cps.all (· < 128)) = true := by
    rw [← Array.all_toList, List.all_eq_true]
    intro c hc
    exact decide_eq_true (ha c hc)
  have hsz : 0 < word.cps.size := by
    rw [← Array.length_toList]
    exact List.length_pos_iff.mpr hne
  refine call_max_walk (wpAny_pyIter_ascii ha' ⟨_, _, _, _, _, _, _, rfl, Walks.strAscii (A := A.in1) hh s.heap.objs.size word tw, (show Heap.IsStrIter _ _ _ _ _ _ from ⟨_, Heap.get?_push_size _ rfl, rfl, rfl⟩), ?_, hsz, signs_gt, fun v h' tk hP hk => ?_⟩)
  · intro b hb
    rw [List.mem_singleton.mp hb]
    show s.heap.objs.size < (s.heap.push _).objs.size
    rw [Heap.size_push]
    exact Nat.lt_succ_self _
  · obtain ⟨c, u, hc, rfl⟩ := hP
    have kept : ∀ b o, s.heap.get? b = some o → h'.get? b = some o := fun b o e => by
      refine hk b o (fun hm => ?_) (Heap.get?_push_of_some _ e)
      exact absurd ((List.mem_singleton.mp hm) ▸ Heap.lt_size e) (Nat.lt_irrefl _)
    obtain ⟨g1, g2⟩ := argBest_gt (fun i => ((word.cps.getD i 0 : Nat) : Int)) (word.cps.size - 1)
    have e : mxL word.cps.toList = c := by
      refine mxL_eq (List.mem_of_getElem? (by simpa using hc)) fun d hd => ?_
      obtain ⟨j, hj, rfl⟩ := List.getElem_of_mem hd
      have hj' : j < word.cps.size := by simpa using hj
      have := g2 j (by omega)
      rw [Array.getD_eq_getD_getElem?, Array.getD_eq_getD_getElem?, hc] at this
      rw [Array.getElem?_eq_getElem hj'] at this
      simp only [Option.getD_some] at this
      simp only [Array.getElem_toList]
      omega
    have hq := h h' u tk (F.grownK kept) (N.grown kept)
    rw [e] at hq
    exact hq
/-- index of a sign that stands in the text -/
theorem index_sign {word : Str} {c : Nat} {t u : Tok} (hc : c ∈ word.cps.toList) (h : ∀ t' k, Q (.int (word.cps.toList.findIdx (· == c) : Nat) t') { s with toks := k }) :
    wpAny (model prog w) A (call (.builtin "str.index") [.str word t, .str ⟨#[c]⟩ u]) Q E s := by
  have at_iff : ∀ i, PySem.StrLaws.At word ⟨#[c]⟩ word.length i ↔ word.cps.toList[i]? = some c := by
    intro i
    have e1 : (⟨#[c]⟩ : Str).length = 1 := by simp [PySem.Str.length]
    unfold PySem.StrLaws.At PySem.Builtin.Str.subAt
    rw [e1]
    constructor
    · rintro ⟨h1, h2⟩
      have h1' : i < word.cps.size := by have : word.length = word.cps.size := rfl; omega
      have h3 := eq_of_beq h2
      have h4 : (word.cps.extract i (i + 1))[0]? = some c := by rw [h3]; rfl
      rw [Array.getElem?_extract_of_lt (by omega)] at h4
      rw [Array.getElem?_toList, Array.getElem?_eq_getElem h1']
      exact h4
    · intro h1
      have h1' : i < word.cps.size := by
        rcases Nat.lt_or_ge i word.cps.toList.length with h | h
        · simpa using h
        · rw [List.getElem?_eq_none h] at h1; cases h1
      refine ⟨by have : word.length = word.cps.size := rfl; omega, ?_⟩
      refine beq_iff_eq.mpr (Array.toList_inj.mp ?_)
      rw [Array.toList_extract]
      have h2 : word.cps.toList[i]'(by simpa using h1') = c := by
        rw [List.getElem?_eq_getElem (by simpa using h1')] at h1
        exact Option.some.inj h1
      show ((word.cps.toList.drop i).take (i + 1 - i)) = [c]
      rw [Nat.add_sub_cancel_left, List.drop_eq_getElem_cons (by simpa using h1'), h2]
      rfl
  rcases PySem.StrLaws.occ_head word ⟨#[c]⟩ 1 (Nat.le_refl 1) with ⟨_, hn⟩ | ⟨i, r, h0, hi, hn⟩
  · exfalso
    obtain ⟨j, hj, e⟩ := List.getElem_of_mem hc
    exact hn j ((at_iff j).mpr (by rw [List.getElem?_eq_getElem hj, e]))
  · refine PySem.SC.index h0 ?_
    have hi' := (at_iff i).mp hi
    have hlt : i < word.cps.toList.length := by
      rcases Nat.lt_or_ge i word.cps.toList.length with h | h
      · exact h
      · rw [List.getElem?_eq_none h] at hi'; cases hi'
    have e : word.cps.toList.findIdx (· == c) = i := by
      refine (List.findIdx_eq hlt).mpr ⟨?_, fun j hj => ?_⟩
      · rw [List.getElem?_eq_getElem hlt] at hi'
        simpa using Option.some.inj hi'
      · have := mt (at_iff j).mpr (hn j hj)
        rw [List.getElem?_eq_getElem (by omega)] at this
        exact beq_eq_false_iff_ne.mpr fun e => this (by rw [e])
    have hq := h s.toks (s.toks + 1)
    rw [e] at hq
    exact hq
end
end
section
section
variable {prog : Program} {w : World} {A : Around} {E : Value → Shared → Prop} {s : Shared} {env : Env} {h₀ : Heap} {body : List Stmt} {Q : Flow → Shared → Prop}
/-- a loop over the numbered signs of a text of signs below 128 -/
theorem enum_textG {elts : List Expr} {k : Nat} {pos : Pos} {xt : Str} {tx : Tok} {m₀ : Str → Option Value} {news : Led} (J : Nat → (Str → Option Value) → Led → Prop) (ha : (xt.cps.all (· < 128)) = true)
    (hh : A.handled = none) (F : Fr h₀ env.locals s.heap m₀) (N : News h₀ env.locals s.heap news) (hj : J 0 m₀ news)
    (turn : ∀ (i c : Nat) (T : Addr) (t u : Tok) m₁ news₁ h tk own, xt.cps[i]? = some c → IsTup h T #[.int (i : Int) t, .str ⟨#[c]⟩ u] → OwnOff own (news₁.map (·.1)) → J i m₁ news₁ → Fr h₀ env.locals h m₁ → News h₀ env.locals h (news₁ ++ own) →
      wpAny (model prog w) A (assign (.Tuple elts k pos) env (.ref T)) (fun _ s₃ => wpAny (model prog w) A (execs body env) (InvPostG h₀ env.locals (J (i + 1)) own { s with heap := h, toks := tk } Q) E s₃) E { s with heap := h, toks := tk })
    (done : ∀ m₁ news₁ h tk, J xt.cps.size m₁ news₁ → Fr h₀ env.locals h m₁ → News h₀ env.locals h news₁ → Q .next { s with heap := h, toks := tk }) :
    wpAny (model prog w) A (call (.type "enumerate") [.str xt tx]) (fun xv s₁ => wpAny (model prog w) A (pyIter xv) (fun it s₂ => TurnsAt prog w A h₀ env (.Tuple elts k pos) body Q E it s₂) E s₁) E s := by
  have hLs : env.locals < s.heap.objs.size := F.ns.lt
  refine call_enumerate_str fun h' hE hit hsz hk => ?_
  refine wpAny_pyIter_enum hE ?_
  have hit' : h'.IsStrIter s.heap.objs.size "str_ascii_iterator" xt tx 0 := by simpa [strIterType, ha] using hit
  refine ⟨s.heap.objs.size + 1, _, _, _, _, _, _, m₀, news, J, rfl, KTurns.ofWalksU (WalksT.enumerateD (Draws.strAscii (A := A.in1) hh s.heap.objs.size xt tx) (s.heap.objs.size + 1) (Nat.succ_ne_self _) (by simp) (by simp)).toU, ?_, ?_, ?_, ⟨⟨_, hE⟩, hit'⟩, F.keeps hk, N.grown hk, hj, ?_, ?_⟩
  · intro hm
    rcases List.mem_cons.mp hm with e | hm
    · exact ktu_ne 1 hLs e
    · exact Nat.ne_of_lt hLs (List.mem_singleton.mp hm)
  · intro b hb
    rcases List.mem_cons.mp hb with rfl | hb
    · exact ktu_new F (Nat.le_add_right _ _)
    · rw [List.mem_singleton.mp hb]; exact ktu_new F (Nat.le_refl _)
  · intro p hp hb
    have hq := Heap.lt_size (N p hp).1
    rcases List.mem_cons.mp hb with e | hb
    · exact ktu_ne 1 hq e
    · exact Nat.ne_of_lt hq (List.mem_singleton.mp hb)
  · rintro i v m₁ news₁ h₁ tk₁ own hin ⟨T, vals, rfl, ⟨t, x, ⟨c, u, hc, rfl⟩, rfl⟩, hT⟩ hJ hoff hown hget hfp hst F₁ N₁
    obtain ⟨⟨old, he⟩, hs⟩ := hst
    obtain ⟨oi, hoi, _⟩ := id hs
    have hEown : ∃ o, ((s.heap.objs.size + 1 : Addr), o) ∈ own := ⟨_, hfp _ (.head _) (ktu_new F (Nat.le_add_right _ _)) _ he⟩
    have hIown : ∃ o, ((s.heap.objs.size : Addr), o) ∈ own := ⟨_, hfp _ (.tail _ (.head _)) (ktu_new F (Nat.le_refl _)) _ hoi⟩
    have hsep : OwnOff own (news₁.map (·.1)) := by
      intro p hp b hb e
      obtain ⟨q, hq, rfl⟩ := List.mem_map.mp hb
      refine hoff q hq ?_
      rw [← e]
      rcases List.mem_cons.mp (hown p hp) with e1 | h1
      · rw [e1]; exact .head _
      · rw [List.mem_singleton.mp h1]; exact .tail _ (.head _)
    have N₂ : News h₀ env.locals h₁ (news₁ ++ own) := fun p hp => N₁ p ((List.mem_append.mp hp).elim (fun h => List.mem_append.mpr (.inr h)) fun h => List.mem_append.mpr (.inl h))
    refine wpAny_mono (turn i c T t u m₁ news₁ h₁ tk₁ own hc hT hsep hJ F₁ N₂) (fun _ s₃ h₃ => wpAny_mono h₃ (fun f s₂ p => ?_) fun _ _ e => e) fun _ _ e => e
    have fin : InvEndG h₀ env.locals (J (i + 1)) own { s with heap := h₁, toks := tk₁ } s₂ → LoopStepU h₀ env.locals [s.heap.objs.size + 1, s.heap.objs.size] own (J (i + 1)) { s with heap := h₁, toks := tk₁ } .next s₂ := by
      rintro ⟨h'', tk, m', news', nx, e, F', N', hn, ho, ha, hm⟩
      refine ⟨rfl, h'', tk, m', nx, e, F', fun p hp => N' p ((List.mem_append.mp hp).elim (ho p) (hn p)), fun p hp hq => ?_, hm⟩
      have hpm : p.1 ∈ nx.map (·.1) := List.mem_map.mpr ⟨p, hp, rfl⟩
      rcases List.mem_cons.mp hq with e1 | hq
      · obtain ⟨o, hEown⟩ := hEown
        exact ha _ hEown p.1 hpm e1.symm
      · obtain ⟨o, hIown⟩ := hIown
        exact ha _ hIown p.1 hpm (List.mem_singleton.mp hq).symm
    cases f with
    | ret v => exact .ret p
    | brk => exact .brk p
    | next => exact .next (fin p)
    | cont => exact .cont (fin p)
  · rintro h₁ tk m' news' F' N' _ hJ
    exact done m' news' h₁ tk hJ F' N'
end
/-- where a comprehension with a test over a text of signs below 128 starts -/
def SrcST (prog : Program) (w : World) (A : Around) (h₀ : Heap) (L : Addr) (m : Str → Option Value) (env : Env) (ct elt : Expr) (x : Str) (scope : Scope) (cl : List (Str × Addr)) (Fin : Shared → List Value → Led → Prop) (xv : Value) (s₁ : Shared) : Prop :=
  ∃ xt tx news, xv = .str xt tx ∧ (xt.cps.all (· < 128)) = true ∧ A.handled = none ∧ Fr h₀ L s₁.heap m ∧ News h₀ L s₁.heap news ∧ xt.cps.size ≤ sizeLine ∧
    ∀ g, LCt.CompRestT prog w A h₀ L m env ct elt x scope cl { s₁ with heap := g } (fun _ => True) (SignAt xt) (Fin { s₁ with heap := g }) xt.cps.size 0 [] news
theorem ListComp_textT {prog : Program} {w : World} {A : Around} {E : Value → Shared → Prop} {s : Shared} {h₀ : Heap} {L : Addr} {m : Str → Option Value} {env : Env} {ct elt iter : Expr} {x : Str} {px : Pos} {scope : Scope} {cl : List (Str × Addr)} {pos : Pos} {Q : Value → Shared → Prop}
    (_F₀ : Fr h₀ L s.heap m) (hclos : closureFor scope env = pure cl) (hcell : ∀ y ∈ scope.names, y.2 ≠ .cell) (hkind : scope.kind = .function)
    (hnames : ∀ y ∈ scope.names, y.2 = .local → scope.names.lookup y.1 = some .local) (hx : scope.names.lookup x = some .local)
    (h : wpAny (model prog w) A (eval iter env) (SrcST prog w A h₀ L m env ct elt x scope cl (fun s₂ => LCg.FinE h₀ L m s₂ Q)) E s)
    (hs : ∀ x, foldedSetIterable iter env x = pure x := by intro _; rfl) :
    wpAny (model prog w) A (eval (.ListComp elt [⟨.Name x px, iter, [ct], 0⟩] scope pos) env) Q E s := by
  rw [eval_ListComp]
  refine wpAny_comprehension_free (use := none) rfl hs hclos hkind hnames (wpAny_mono h (fun xv s₁ h₁ => ?_) fun _ _ e => e)
  obtain ⟨xt, tx, news, rfl, ha, hh, F, N, hsz, R⟩ := h₁
  refine wpAny_pyIter_ascii ha ?_
  have up : ∀ b o, s₁.heap.get? b = some o → (s₁.heap.push { cls := .type "str_ascii_iterator", data := .fields #[.str xt tx, .int 0 0] }).get? b = some o := fun b o e => Heap.get?_push_of_some _ e
  refine LCt.block_T (Walks.strAscii hh s₁.heap.objs.size xt tx) hsz (fun i h st => by obtain ⟨o, e, _⟩ := st; exact ⟨o, e⟩)
    (fun i h h' o nw st e e' _ _ _ => by obtain ⟨o', q, r⟩ := st; rw [e] at q; cases q; exact ⟨o, e', r⟩) hcell hkind hx ⟨_, Heap.get?_push_size _ rfl, rfl, rfl⟩ (fun b hb => ?_)
    (F.keeps up) (N.grown up) (Nat.ne_of_lt F.ns.lt) (next_is_new F) (fun p hp => Nat.ne_of_lt (Heap.lt_size (N p hp).1)) trivial (R _) ?_
  · show b < (s₁.heap.push _).objs.size
    rw [Heap.size_push, List.mem_singleton.mp hb]
    exact Nat.lt_succ_self _
  · intro D C h tk m' ys news' F' N' o1 hn hC₀ hD₀ hCL hDL hCD offC fin
    refine ⟨m', hn, fun h'' hs'' => fin D h'' tk (F'.change hs'' hCL hC₀) (fun p hp => ?_) o1⟩
    refine ⟨hs''.extBut _ _ ?_ (N' p hp).1, (N' p hp).2⟩
    rcases List.mem_cons.mp hp with rfl | hp
    · exact Ne.symm hCD
    · exact offC p hp
section
variable {prog : Program} {w : World} {A : Around} {E : Value → Shared → Prop} {s : Shared} {h₀ : Heap} {L : Addr} {m : Str → Option Value} {env : Env} {news : Led}
/-- a comprehension that keeps the signs of a text that pass a test -/
theorem compT_signs {ct elt : Expr} {x : Str} {scope : Scope} {cl : List (Str × Addr)} {S : Led → Prop} {xt : Str} {Fin : List Value → Led → Prop} (p : Nat → Bool)
    (turn : ∀ (i c : Nat) (u : Tok) I oI C oC D m₂ ys h tk (E' : Value → Shared → Prop), xt.cps[i]? = some c → LCg.NsObj oC m₂ → m₂ x = some (.str ⟨#[c]⟩ u) → Fr h₀ L h m → News h₀ L h ((I, oI) :: (C, oC) :: (D, LCg.lst ys) :: news) → LCg.Off3 I C D news → ((@Ne Nat I C) ∧ (@Ne Nat I D) ∧ (@Ne Nat C D)) →
      wpAny (model prog w) A (isTrue ct (compEnvC scope cl C env) (eval ct (compEnvC scope cl C env))) (fun ok s' => if ok = true then
        wpAny (model prog w) A (eval elt (compEnvC scope cl C env)) (LCg.CompEnd h₀ L m { s with heap := h, toks := tk } I oI C oC D (LCg.lst ys) S (fun y news' => p c = true ∧ news' = news ∧ ∃ t : Tok, y = .str ⟨#[c]⟩ t)) E' s'
        else LCg.CompEnd h₀ L m { s with heap := h, toks := tk } I oI C oC D (LCg.lst ys) S (fun _ news' => p c = false ∧ news' = news) Value.none s') E' { s with heap := h, toks := tk })
    (fin : ∀ ys, StrsAre ys ((xt.cps.toList.filter p).map fun c => (⟨#[c]⟩ : Str)) → Fin ys news) : LCt.CompRestT prog w A h₀ L m env ct elt x scope cl s S (SignAt xt) Fin xt.cps.size 0 [] news := by
  have key : ∀ (j i : Nat) (ys : List Value), i + j = xt.cps.size → StrsAre ys (((xt.cps.toList.take i).filter p).map fun c => (⟨#[c]⟩ : Str)) → LCt.CompRestT prog w A h₀ L m env ct elt x scope cl s S (SignAt xt) Fin j i ys news := by
    intro j
    induction j with
    | zero =>
      intro i ys hi hy
      have e : i = xt.cps.toList.length := by rw [Array.length_toList]; omega
      rw [e, List.take_length] at hy
      exact LCt.CompRestT.zero (fin ys hy)
    | succ j ih =>
      intro i ys hi hy
      refine LCt.CompRestT.succ ?_
      intro v I oI C oC D m₂ h tk E' hv hC hx F N off ne
      obtain ⟨c, u, hc, rfl⟩ := hv
      have hc' : xt.cps.toList[i]? = some c := by rw [Array.getElem?_toList]; exact hc
      have step : ∀ b, p c = b → ((xt.cps.toList.take (i + 1)).filter p).map (fun c => (⟨#[c]⟩ : Str)) = ((xt.cps.toList.take i).filter p).map (fun c => (⟨#[c]⟩ : Str)) ++ (if b = true then [⟨#[c]⟩] else []) := by
        intro b hb
        rw [List.take_add_one, hc', List.filter_append, List.map_append]
        congr 1
        cases b <;> simp [hb]
      refine wpAny_mono (turn i c u I oI C oC D m₂ ys h tk E' hc hC hx F N off ne) (fun ok s₂ hq => ?_) fun _ _ e => e
      cases ok with
      | true =>
        simp only [if_true] at hq ⊢
        refine wpAny_mono hq (fun y s₃ hq => ?_) fun _ _ e => e
        obtain ⟨h', tk', nw, e, F', N', off', hS, hp, hn, t', hy'⟩ := hq
        rw [hn] at N' off' hS
        refine ⟨h', tk', news, e, F', N', off', hS, ?_⟩
        rw [hy']
        dsimp only
        refine ih (i + 1) _ (by omega) ?_
        rw [step true hp]
        exact strs_snoc9 hy
      | false =>
        simp only [Bool.false_eq_true, if_false] at hq ⊢
        obtain ⟨h', tk', nw, e, F', N', off', hS, hp, hn⟩ := hq
        rw [hn] at N' off' hS
        refine ⟨h', tk', news, e, F', N', off', hS, ?_⟩
        dsimp only
        refine ih (i + 1) _ (by omega) ?_
        rw [step false hp]
        simpa using hy
  exact key xt.cps.size 0 [] (by omega) (by simp only [List.take_zero, List.filter_nil, List.map_nil]; exact .nil)
end
section
variable {prog : Program} {w : World} {A : Around} {E : Value → Shared → Prop} {s : Shared} {env : Env} {h₀ : Heap} {body : List Stmt} {Q : Flow → Shared → Prop}
/-- a loop over a range whose turns leave the ledger and all names but one -/
theorem plain_range {y : Str} {r : Addr} {x0 y0 : Int} {e : Nat} {t₀ u₀ v₀ : Tok} {m₀ : Str → Option Value} {news : Led} (P : Nat → Prop) (hP : P 0)
    (hh : A.handled = none) (hr : IsRange s.heap r x0 y0 1 t₀ u₀ v₀) (hsm : Builtin.Range.small x0 y0 1 = true) (hn : Builtin.Range.rangeSize x0 y0 1 = (e : Int)) (F : Fr h₀ env.locals s.heap m₀) (N : News h₀ env.locals s.heap news)
    (turn : ∀ (k : Nat) (t : Tok) (h : Heap) (tk : Nat) (own : Led), k < e → P k → OwnOff own (news.map (·.1)) → Fr h₀ env.locals h (fun z => if z = y then some (.int (x0 + (k : Int)) t) else m₀ z) → News h₀ env.locals h (news ++ own) →
      wpAny (model prog w) A (execs body env) (InvPostN h₀ env.locals (fun m nx => P (k + 1) ∧ nx = news ∧ ∀ z, z ≠ y → m z = m₀ z) own (news.map (·.1)) { s with heap := h, toks := tk } Q) E { s with heap := h, toks := tk })
    (done : ∀ (u : Option Value) (h : Heap) (tk : Nat), P e → Fr h₀ env.locals h (fun z => if z = y then u else m₀ z) → News h₀ env.locals h news → Q .next { s with heap := h, toks := tk }) :
    wpAny (model prog w) A (pyIter (.ref r)) (fun it s₂ => LoopAtV prog w A h₀ env y body Q E it s₂) E s := by
  refine wpAny_pyIter_range hr hsm ?_
  refine loop_invN (fun i m nx => P i ∧ nx = news ∧ ∀ z, z ≠ y → m z = m₀ z) (Walks.range hh s.heap.objs.size x0 1 e) ?_ ?_ ?_ ?_ (by show IsRangeIter _ _ _ _ _; rw [hn]; simpa using Heap.get?_push_size _ rfl) (F.push _) (fun p hp => ⟨Heap.get?_push_of_some _ (N p hp).1, (N p hp).2⟩) ⟨hP, rfl, fun _ _ => rfl⟩ ?_ ?_
  · intro hm
    exact absurd F.ns.lt ((List.mem_singleton.mp hm) ▸ Nat.lt_irrefl _)
  · intro b hb
    rw [List.mem_singleton.mp hb]
    exact next_is_new F
  · intro p hp hI
    exact absurd (Heap.lt_size (N p hp).1) ((List.mem_singleton.mp hI) ▸ Nat.lt_irrefl _)
  · intro p hp hI
    exact absurd (Heap.lt_size (N p hp).1) ((List.mem_singleton.mp hI) ▸ Nat.lt_irrefl _)
  · rintro i v m₁ nx h tk own hi ⟨t, rfl⟩ _ hoff ⟨hPi, rfl, hm'⟩ F₁ N₁
    have e1 : (fun z => if z = y then some (Value.int (x0 + (i : Int) * 1) t) else m₁ z) = fun z => if z = y then some (.int (x0 + (i : Int)) t) else m₀ z := by
      funext z
      by_cases h1 : z = y
      · rw [if_pos h1, if_pos h1, Int.mul_one]
      · rw [if_neg h1, if_neg h1, hm' z h1]
    rw [e1] at F₁
    exact turn i t h tk own hi hPi hoff F₁ N₁
  · rintro m₁ nx h tk ⟨hPi, rfl, hm'⟩ F₁ N₁
    refine done (m₁ y) h tk hPi ?_ N₁
    have e1 : (fun z => if z = y then m₁ y else m₀ z) = m₁ := by
      funext z
      by_cases h1 : z = y
      · rw [if_pos h1, h1]
      · rw [if_neg h1]; exact (hm' z h1).symm
    rw [e1]
    exact F₁
end
theorem txt_list (l : List Nat) : (txt l).cps.toList = l := by simp [txt]
theorem txt_len (l : List Nat) : (txt l).length = l.length := by simp [txt, PySem.Str.length]
theorem slice_to_txt {x : Str} {j : Nat} (h : j ≤ x.length) : Txt.slice x none (some (j : Int)) = txt (x.cps.toList.take j) := by
  have hl : x.cps.toList.length = x.length := Array.length_toList
  have e := eq_of_beq (PyProof.Rows.slice_closes_to (x := x) (j := (j : Int)) ⟨by omega, by omega⟩)
  rw [e]
  show (⟨_⟩ : Str) = ⟨_⟩
  congr 2
theorem slice_from_txt {x : Str} {j : Nat} (h : j + 1 ≤ x.length) : Txt.slice x (some ((j : Int) + 1)) none = txt (x.cps.toList.drop (j + 1)) := by
  have hl : x.cps.toList.length = x.length := Array.length_toList
  rw [PyProof.Rows.slice_from_eq (b := (x.length : Int)) (by omega) (by omega) rfl]
  show (⟨_⟩ : Str) = ⟨_⟩
  congr 2
  have e1 : ((j : Int) + 1).toNat = j + 1 := by omega
  rw [e1]
  refine List.take_of_length_le ?_
  rw [List.length_drop]
  omega
theorem txt_app (a b : List Nat) : txt a ++ txt b = txt (a ++ b) := by
  refine PySem.Str.ext' (Array.toList_inj.mp ?_)
  rw [PySem.Str.cps_append, Array.toList_append]
  simp [txt]
theorem dueL_len : ∀ (k : Nat) (l : List Nat), (dueL k l).length ≤ l.length
  | 0, l => Nat.zero_le _
  | k + 1, [] => Nat.zero_le _
  | k + 1, c :: l => by
    have h1 := dueL_len k ((c :: l).take (atL (c :: l)))
    have h2 := dueL_len k ((c :: l).drop (atL (c :: l) + 1))
    have h3 := atL_lt (l := c :: l) (by simp)
    simp only [List.length_take, List.length_drop] at h1 h2
    show (_ ++ _ ++ [_]).length ≤ _
    rw [List.length_append, List.length_append, List.length_singleton]
    omega
theorem dueL_cons {k : Nat} {l : List Nat} (h : l ≠ []) : dueL (k + 1) l = dueL k (l.take (atL l)) ++ dueL k (l.drop (atL l + 1)) ++ [mxL l] := by
  cases l with
  | nil => exact absurd rfl h
  | cons c r => rfl
theorem item_txt {x : Str} {j c : Nat} (h : x.cps.toList[j]? = some c) : Txt.item x (j : Int) = ⟨#[c]⟩ :=
  PyProof.Rows.item_meets (by omega) (by rw [Int.toNat_natCast, ← Array.getElem?_toList]; exact h)
end
section
local macro_rules | `(tactic| walk_at "call builtin:max") => `(tactic| (k_here; (with_reducible show wpAny _ _ (call (Value.builtin "max") [Value.str _ _]) _ _ _); refine Stop.out ?_))
local macro_rules | `(tactic| walk_at "call builtin:str.index") => `(tactic| (k_here; refine Stop.out ?_))
local macro_rules | `(tactic| walk_at "call ref") => `(tactic| (k_here; (with_reducible show wpAny _ _ (call (Value.ref 151) _) _ _ _); refine Stop.out ?_))
set_option maxRecDepth 100000 in
set_option maxHeartbeats 8000000 in
theorem due_con (w : World) (mean : ExcName → Option Value) (mg mb : Str → Option Value) (own : Led) : ∀ (N9 : Nat) (word : Str) (tw : Tok), word.length ≤ N9 → N9 ≤ 5 → (∀ c ∈ word.cps.toList, c < 128) →
   Con w mean mg mb 151 (4 + 6 * N9) (100 + 100 * N9) own [.str word tw] (fun v led' => (∃ t, v = .str (txt (dueL N9 word.cps.toList)) t) ∧ led' = own) := by
  intro N9
  induction N9 with
  | zero =>
    intro word tw hN h5 hl
    have hw : word = ⟨#[]⟩ := by
      refine PySem.Str.ext' (Array.toList_inj.mp ?_)
      refine List.eq_nil_of_length_eq_zero ?_
      have hwl : word.cps.toList.length = word.length := Array.length_toList
      omega
    subst hw
    unfold Con
    k_fill
    intro dp un gd cn cs a ccd cl outer A₀ base h₀ L m s Q E hB F X N T hk hd hu hret
    refine wpAny_call ?_
    k_dflt k_enter
    have hMark := kstMark
    k_steps
    exact hret _ _ _ _ ⟨⟨_, rfl⟩, rfl⟩ (by k_asm) (by k_asm)
  | succ N9 ih =>
    intro word tw hN h5 hl
    unfold Con
    k_fill
    intro dp un gd cn cs a ccd cl outer A₀ base h₀ L m s Q E hB F X N T hk hd hu hret
    refine wpAny_call ?_
    k_dflt k_enter
    have hMark := kstMark
    k_steps
    · rename (word == _) = true => hw9
      have hw := eq_of_beq hw9
      subst hw
      exact hret _ _ _ _ ⟨⟨_, rfl⟩, rfl⟩ (by k_asm) (by k_asm)
    · rename (word == _) = false => hw9
      have hne : word.cps.toList ≠ [] := fun h => by
        have : word = ⟨#[]⟩ := PySem.Str.ext' (Array.toList_inj.mp h)
        rw [this] at hw9
        exact absurd hw9 (by decide)
      unfold Stop
      refine max_text rfl hl hne (by k_asm) (by k_asm) ?_
      intro h2 t2 tk2 F2 N2
      have hlt := atL_lt hne
      have hwl : word.cps.toList.length = word.length := Array.length_toList
      rw [hwl] at hlt
      (try dsimp only)
      k_steps
      unfold Stop
      refine index_sign (mxL_mem hne) ?_
      intro t3 k3
      (try dsimp only)
      k_steps
      unfold Stop
      have eA : List.findIdx (fun x => x == mxL word.cps.toList) word.cps.toList = atL word.cps.toList := rfl
      rw [eA, slice_to_txt (by omega)]
      refine' ih (txt (word.cps.toList.take (atL word.cps.toList))) _ ?g1 ?g2 ?g3 _ _ _ _ _ _ _ _ _ _ _ _ _ _ _ _ _ ?k1 ?k2 ?k3 ?k4 ?k5 ?kK ?kd ?ku ?kR
      (case g1 => rw [txt_len, List.length_take]; omega); (case g2 => omega); (case g3 => intro c hc; rw [txt_list] at hc; exact hl c (List.mem_of_mem_take hc))
      (case k1 => k_asm); (case k2 => k_asm); (case k3 => k_asm); (case k4 => k_asm); (case k5 => k_asm); (case kK => first | exact rfl | assumption); (case kd => ktr_room); (case ku => ktr_units)
      intro v9 led9 h9 tk9 r9 F9 N9'
      obtain ⟨⟨t9, e9⟩, e9'⟩ := r9
      subst e9
      rw [e9'] at N9'
      clear e9'
      rw [txt_list]
      (try dsimp only)
      k_steps
      unfold Stop
      rw [eA, slice_from_txt (by omega)]
      refine' ih (txt (word.cps.toList.drop (atL word.cps.toList + 1))) _ ?p1 ?p2 ?p3 _ _ _ _ _ _ _ _ _ _ _ _ _ _ _ _ _ ?q1 ?q2 ?q3 ?q4 ?q5 ?qK ?qd ?qu ?qR
      (case p1 => rw [txt_len, List.length_drop]; omega); (case p2 => omega); (case p3 => intro c hc; rw [txt_list] at hc; exact hl c (List.mem_of_mem_drop hc))
      (case q1 => k_asm); (case q2 => k_asm); (case q3 => k_asm); (case q4 => k_asm); (case q5 => k_asm); (case qK => first | exact rfl | assumption); (case qd => ktr_room); (case qu => ktr_units)
      intro v8 led8 h8 tk8 r8 F8 N8'
      obtain ⟨⟨t8, e8⟩, e8'⟩ := r8
      subst e8
      rw [e8'] at N8'
      clear e8'
      rw [txt_list]
      have hz1 := dueL_len N9 (word.cps.toList.take (atL word.cps.toList))
      have hz2 := dueL_len N9 (word.cps.toList.drop (atL word.cps.toList + 1))
      rw [List.length_take] at hz1
      rw [List.length_drop] at hz2
      refine SBL.add (hsz := ?hsz1) ?_
      case hsz1 =>
        rw [txt_len, txt_len, PySem.sizeLine_eq]
        omega
      intro t7 k7 _
      rw [txt_app]
      (try dsimp only)
      k_steps
      rw [eA, item_txt (atL_get hne)]
      refine SBL.add (hsz := ?hsz2) ?_
      case hsz2 =>
        rw [txt_len, List.length_append, PySem.sizeLine_eq]
        show _ + 1 ≤ _
        omega
      intro t6 k6 _
      rw [txt_snoc, ← dueL_cons hne]
      (try dsimp only)
      k_steps
      exact hret _ _ _ _ ⟨⟨_, rfl⟩, rfl⟩ (by k_asm) (by k_asm)
end
section
local macro_rules | `(tactic| walk_at "exec For Tuple Call cons nil") => `(tactic| (k_here; (rename Fr _ _ _ _ => lF'); (with_unfolding_all refine' For_turns lF' ?_; k_whole)))
local macro_rules | `(tactic| walk_at "call type:enumerate") => `(tactic| (k_here; refine Stop.out ?_))
local macro_rules | `(tactic| walk_at "pyIter ref") => `(tactic| (k_here; (with_reducible show wpAny _ _ (pyIter (Value.ref _)) (fun it s₂ => LoopAtV _ _ _ _ _ _ _ _ _ it s₂) _ _); refine Stop.out ?_))
local macro_rules | `(tactic| walk_at "exec For Name Call cons nil") => `(tactic| (k_here; (rename Fr _ _ _ _ => lF'); (with_unfolding_all refine' For_invVF lF' ?k1 ?k2 ?_; (case k1 => exact rfl); (case k2 => exact rfl); k_whole)))
local macro_rules | `(tactic| walk_at "eval ListComp") => `(tactic| (k_here; k_dflt (refine ListComp_textT (by k_asm) (by with_unfolding_all rfl) (by decide) (by rfl) (by decide) (by rfl) ?_)))
local macro_rules | `(tactic| walk_at "SrcST") => `(tactic| (k_here; refine Stop.out ?_))
local macro_rules | `(tactic| walk_at "compareOp NotEq ref ref") => `(tactic| (k_here; refine Stop.out ?_))
local macro_rules | `(tactic| k_all) => `(tactic| (first | assumption | (refine allOff (by assumption) ?_; (try dsimp only); omega)))
local macro_rules | `(tactic| walk_at "call type:range") => `(tactic| (k_here; k_dflt (refine range2_rows (by k_asm) (by k_asm) ?_); intro h' tk' t' u' v' r' F' N' _; (try k_sweep)))
/-- at places i < j < n: a greater sign behind, and a lesser behind that -/
def badL (l : List Nat) (i j : Nat) : Bool := decide (l.getD i 0 < l.getD j 0) && ((l.drop (j + 1)).filter fun d => decide (d < l.getD i 0)).length != 0
def freeL (l : List Nat) : Bool := (List.range l.length).all fun i => (List.range l.length).all fun j => !(decide (i < j) && badL l i j)
theorem freeL_true {l : List Nat} (h : ∀ i, i < l.length → ∀ j, i < j → j < l.length → badL l i j = false) : freeL l = true := by
  unfold freeL
  rw [List.all_eq_true]
  intro i hi
  rw [List.all_eq_true]
  intro j hj
  rw [List.mem_range] at hi hj
  by_cases hij : i < j
  · rw [h i hi j hij hj]; simp
  · simp [hij]
theorem freeL_false {l : List Nat} {i j : Nat} (h1 : i < j) (h2 : j < l.length) (h : badL l i j = true) : freeL l = false := by
  rw [Bool.eq_false_iff]
  intro e
  unfold freeL at e
  rw [List.all_eq_true] at e
  have e1 := e i (List.mem_range.mpr (by omega))
  rw [List.all_eq_true] at e1
  have e2 := e1 j (List.mem_range.mpr h2)
  rw [h] at e2
  simp [h1] at e2
def frMap (m₀ : Str → Option Value) (a b : Option Value) : Str → Option Value := fun y => if y = Str.ofString "at" then a else if y = Str.ofString "spot" then b else m₀ y
theorem frMap_eq {m₀ m : Str → Option Value} (h : ∀ z, z ≠ Str.ofString "at" → z ≠ Str.ofString "spot" → m z = m₀ z) : m = frMap m₀ (m (Str.ofString "at")) (m (Str.ofString "spot")) := by
  funext y
  unfold frMap
  by_cases h1 : y = Str.ofString "at"
  · rw [if_pos h1, h1]
  rw [if_neg h1]
  by_cases h2 : y = Str.ofString "spot"
  · rw [if_pos h2, h2]
  rw [if_neg h2]
  exact h y h1 h2
def FrJ (m₀ : Str → Option Value) (cS : Nat) (own : Led) (l : List Nat) (i : Nat) (m : Str → Option Value) (nx : Led) : Prop :=
  (∃ a b, m = frMap m₀ a b) ∧ (∃ (o : Obj) (v : Option Value), o.data = .cell v ∧ nx = (cS, o) :: own) ∧ ∀ i', i' < i → ∀ j, i' < j → j < l.length → badL l i' j = false
theorem fr_off {own ow : Led} {L9 : Nat} {o1 : Obj} (h1 : ∀ p ∈ own, @LT.lt Nat _ p.1 L9) (h2 : OwnOff ow (((L9 + 1, o1) :: own).map (·.1))) : ∀ p ∈ own ++ ow, @Ne Nat p.1 (L9 + 1) := fun p hp => by
  rcases List.mem_append.mp hp with hp | hp
  · have h3 : @LT.lt Nat _ p.1 L9 := h1 p hp
    omega
  · exact h2 p hp _ (.head _)
theorem cons_left (x : Addr × Obj) (a b : Led) : ∀ p ∈ x :: a, p ∈ x :: (a ++ b) := fun p hp => (List.mem_cons.mp hp).elim (fun e => e ▸ .head _) fun h => .tail _ (List.mem_append_left _ h)
theorem cons_right (x : Addr × Obj) (a b : Led) : ∀ p ∈ b, p ∈ x :: (a ++ b) := fun _ hp => .tail _ (List.mem_append_right _ hp)
set_option maxRecDepth 100000 in
set_option maxHeartbeats 8000000 in
theorem free_con (w : World) (mean : ExcName → Option Value) (mg mb : Str → Option Value) (own : Led) (word : Str) (tw : Tok) (h5 : word.length ≤ 5) (hl : ∀ c ∈ word.cps.toList, c < 128) :
   Con w mean mg mb 156 20 300 own [.str word tw] (fun v led' => (v = .bool (freeL word.cps.toList)) ∧ led' = own) := by
    unfold Con
    k_fill
    intro dp un gd cn cs a ccd cl outer A₀ base h₀ L m s Q E hB F X N T hk hd hu hret
    have ha : (word.cps.all (· < 128)) = true := by
      rw [← Array.all_toList, List.all_eq_true]
      intro c hc
      exact decide_eq_true (hl c hc)
    refine wpAny_call ?_
    k_dflt k_enter
    have hMark := kstMark
    k_steps
    unfold Stop
    rename Fr _ _ _ _ => F2
    rename News _ _ _ (_ :: _) => N2
    rename Obj.data _ = _ => hd2
    rename ∀ p ∈ own, p.1 < _ => hlt2
    refine' enum_textG (FrJ _ _ own word.cps.toList) ha rfl F2 N2 ⟨⟨_, _, frMap_eq fun _ _ _ => rfl⟩, ⟨_, _, hd2, rfl⟩, fun i' h => absurd h (Nat.not_lt_zero _)⟩ ?_ ?_
    · clear F2 N2 hd2
      rintro i c T t u m₁ news₁ h tk ow hc hT hof ⟨⟨a1, b1, rfl⟩, ⟨o1, v1, hd1, rfl⟩, hno⟩ F1 N1
      delta frMap at F1
      have hi : i < word.length := by
        rcases Nat.lt_or_ge i word.cps.size with h | h
        · exact h
        · rw [Array.getElem?_eq_none h] at hc; cases hc
      have hoff9 := fr_off hlt2 hof
      rw [List.cons_append] at N1
      obtain ⟨tl, htl⟩ : ∃ tl, tl = own ++ ow := ⟨_, rfl⟩
      rw [← htl] at N1 hoff9
      k_steps
      unfold Stop
      rename IsRange _ _ _ _ _ _ _ _ => rg9
      rename Fr _ _ _ _ => F2
      rename News _ _ _ (_ :: _) => N2
      rename Obj.data _ = Data.cell (some _) => hd2
      have hwl : word.cps.toList.length = word.length := Array.length_toList
      have hci : word.cps.toList[i]? = some c := by rw [Array.getElem?_toList]; exact hc
      refine' plain_range (e := word.length - 1 - i) (fun k => ∀ j, i < j → j < i + 1 + k → badL word.cps.toList i j = false) (fun j h1 h2 => by omega) rfl rg9 (small_one (by omega) (by omega) (by omega) (by omega)) (by simp only [Builtin.Range.rangeSize]; omega) F2 N2 ?_ ?_
      · clear F2 N2 rg9; (try clear F1); (try clear N1)
        intro k t2 h2 tk2 ow2 hk hP hof2 F1 N1
        have hj : i + 1 + k < word.length := by omega
        obtain ⟨d, hdj⟩ : ∃ d, word.cps.toList[i + 1 + k]? = some d := ⟨_, List.getElem?_eq_getElem (by omega)⟩
        have eit : Txt.item word ((i : Int) + 1 + (k : Int)) = ⟨#[d]⟩ := item_txt hdj
        have esl : Txt.slice word (some ((i : Int) + 1 + (k : Int) + 1)) none = txt (word.cps.toList.drop (i + 1 + k + 1)) := slice_from_txt (j := i + 1 + k) (by omega)
        have hbad : badL word.cps.toList i (i + 1 + k) = (decide (c < d) && ((word.cps.toList.drop (i + 1 + k + 1)).filter fun e => decide (e < c)).length != 0) := by
          unfold badL
          rw [List.getD_eq_getElem?_getD, List.getD_eq_getElem?_getD, hci, hdj]
          rfl
        have hnext : badL word.cps.toList i (i + 1 + k) = false → ∀ j, i < j → j < i + 1 + (k + 1) → badL word.cps.toList i j = false := by
          intro hb j h1 h2
          by_cases h3 : j < i + 1 + k
          · exact hP j h1 h3
          · have : j = i + 1 + k := by omega
            rw [this]; exact hb
        rw [List.cons_append] at N1
        k_sweep
        k_steps
        · unfold Stop
          rename (_ : List Nat) < _ => hcd
          rw [eit] at hcd
          have hcd' : c < d := (lt_signs c d).mp hcd
          rw [esl]
          rename Fr _ _ _ _ => F2
          rename News _ _ _ (_ :: _) => N2
          refine ⟨_, _, _, rfl, ?_, rfl, F2, N2, ?_, ?_⟩
          · rw [← Array.all_toList, txt_list, List.all_eq_true]
            intro e he
            exact decide_eq_true (hl e (List.mem_of_mem_drop he))
          · show (txt _).length ≤ _
            rw [txt_len, List.length_drop, PySem.sizeLine_eq]
            omega
          · intro g9
            refine compT_signs (fun e => decide (e < c)) ?_ ?_
            · intro i2 c2 u2 I2 oI2 C2 oC2 D2 m22 ys2 h2' tk2' E2 hc2 hC2 hx2 F3 N3 off2 ne2
              k_steps
              · rename (_ : List Nat) < _ => hlt9
                exact decide_eq_true ((lt_signs c2 c).mp hlt9)
              · rename ¬ (_ : List Nat) < _ => hlt9
                exact decide_eq_false fun h => hlt9 ((lt_signs c2 c).mpr h)
            · intro ys hys
              rw [txt_list] at hys
              k_steps
              unfold Stop
              (try clear F2); (try clear N2)
              rename Fr _ _ _ _ => F2
              rename News _ _ _ (_ :: _) => N2
              cases hfl : ((word.cps.toList.drop (i + 1 + k + 1)).filter fun e => decide (e < c)) with
              | nil =>
                rw [hfl] at hys hbad
                rw [decide_eq_true hcd'] at hbad
                cases hys
                refine ne_signs (st := []) N2 (by k_mem) (by k_mem) .nil .nil (fun _ h => nomatch h) (by ktr_units) ?_
                (try dsimp only)
                k_steps
                rename Fr _ _ _ _ => F3
                rename News _ _ _ (_ :: _) => N3
                exact InvEndN.intro F3 N3 ⟨hnext (by rw [hbad]; rfl), rfl, fun z hz => if_neg hz⟩ rfl (fun p hp => .tail _ (.tail _ (cons_left _ _ _ p hp))) (fun p hp => .tail _ (.tail _ (cons_right _ _ _ p hp)))
              | cons e r =>
                rw [hfl] at hys hbad
                rw [decide_eq_true hcd'] at hbad
                have hyl := hys.length
                refine ne_len (xs := ys.toArray) (ys := #[]) (News.get N2 (by k_mem)) (News.get N2 (by k_mem)) (by rw [List.size_toArray, hyl]; simp) (by ktr_units) ?_
                (try dsimp only)
                k_steps
                rename News _ _ _ (_ :: _) => N4
                have hv : freeL word.cps.toList = false := freeL_false (i := i) (j := i + 1 + k) (by omega) (by omega) (by rw [hbad]; simp)
                refine hret _ _ _ _ ⟨congrArg Value.bool hv.symm, rfl⟩ (by k_asm) (fun p hp => N4 p (.tail _ (.tail _ (.tail _ (List.mem_append_left _ ?_)))))
                rw [htl]
                exact List.mem_append_left _ hp
        · rename ¬ (_ : List Nat) < _ => hcd
          rw [eit] at hcd
          have hcd' : ¬ c < d := fun h => hcd ((lt_signs c d).mpr h)
          rename Fr _ _ _ _ => F2
          rename News _ _ _ (_ :: _) => N2
          exact InvEndN.intro F2 N2 ⟨hnext (by rw [hbad, decide_eq_false hcd']; rfl), rfl, fun z hz => if_neg hz⟩ rfl (cons_left _ _ _) (cons_right _ _ _)
      · (try clear F2); (try clear N2); (try clear F1); (try clear N1)
        intro u3 h3 tk3 hP F1 N1
        k_sweep
        k_steps
        all_goals (try dsimp only)
        rename Fr _ _ _ _ => F3
        rename News _ _ _ (_ :: _) => N3
        refine InvEndG.intro F3 N3 ⟨⟨_, _, frMap_eq (fun z h1 h2 => by simp only [if_neg h1, if_neg h2])⟩, ⟨_, _, hd2, rfl⟩, ?_⟩ hof (fun p hp => ?_) (fun p hp => ?_)
        · intro i' h1 j h2 h3
          by_cases h4 : i' < i
          · exact hno i' h4 j h2 h3
          · have : i' = i := by omega
            subst this
            exact hP j h2 (by omega)
        · rw [htl]
          rcases List.mem_cons.mp hp with rfl | hp
          · exact .head _
          · exact .tail _ (List.mem_append_left _ hp)
        · rw [htl]
          exact .tail _ (List.mem_append_right _ hp)
    · rintro m₁ news₁ h tk ⟨⟨a1, b1, rfl⟩, ⟨o1, v1, hd1, rfl⟩, hno⟩ F1 N1
      (try clear F2); (try clear N2)
      delta frMap at F1
      k_sweep
      k_steps
      have hwl : word.cps.toList.length = word.cps.size := Array.length_toList
      have hv : freeL word.cps.toList = true := freeL_true (fun i hi j h1 h2 => hno i (by omega) j h1 h2)
      rename News _ _ _ (_ :: _) => N4
      exact hret _ _ _ _ ⟨congrArg Value.bool hv.symm, rfl⟩ (by k_asm) (fun p hp => N4 p (.tail _ hp))
end
section
section
variable {prog : Program} {w : World} {A : Around} {E : Value → Shared → Prop} {s : Shared} {env : Env} {h₀ : Heap} {body : List Stmt} {Q : Flow → Shared → Prop}
/-- a loop over range(e) whose name may be a cell -/
theorem turnsN {y : Str} {py : Pos} {r : Addr} {e : Nat} {t₀ u₀ v₀ : Tok} {m₀ : Str → Option Value} {news : Led} (J : Nat → (Str → Option Value) → Led → Prop)
    (hh : A.handled = none) (hr : IsRange s.heap r 0 (e : Int) 1 t₀ u₀ v₀) (he : e ≤ 1000) (F : Fr h₀ env.locals s.heap m₀) (N : News h₀ env.locals s.heap news) (hj : J 0 m₀ news)
    (turn : ∀ (i : Nat) (t : Tok) m₁ news₁ h tk own, i < e → OwnOff own (news₁.map (·.1)) → J i m₁ news₁ → Fr h₀ env.locals h m₁ → News h₀ env.locals h (news₁ ++ own) →
      wpAny (model prog w) A (assign (.Name y py) env (.int (i : Int) t)) (fun _ s₃ => wpAny (model prog w) A (execs body env) (InvPostG h₀ env.locals (J (i + 1)) own { s with heap := h, toks := tk } Q) E s₃) E { s with heap := h, toks := tk })
    (done : ∀ m₁ news₁ h tk, J e m₁ news₁ → Fr h₀ env.locals h m₁ → News h₀ env.locals h news₁ → Q .next { s with heap := h, toks := tk }) :
    wpAny (model prog w) A (pyIter (.ref r)) (fun it s₂ => TurnsAt prog w A h₀ env (.Name y py) body Q E it s₂) E s := by
  refine wpAny_pyIter_range hr (small_one (by omega) (by omega) (by omega) (by omega)) ?_
  have hn : Builtin.Range.rangeSize 0 (e : Int) 1 = (e : Int) := by have := rangeSize_nat 0 e; simpa using this
  refine ⟨s.heap.objs.size, _, _, _, _, _, _, m₀, news, J, rfl, KTurns.ofWalks (Walks.range hh s.heap.objs.size 0 1 e) (fun i v s Q E st q => wpAny_pure q), ?_, ?_, ?_, (by show IsRangeIter _ _ _ _ _; rw [hn]; simpa using Heap.get?_push_size _ rfl), F.push _, (fun p hp => ⟨Heap.get?_push_of_some _ (N p hp).1, (N p hp).2⟩), hj, ?_, ?_⟩
  · intro hm
    exact absurd F.ns.lt ((List.mem_singleton.mp hm) ▸ Nat.lt_irrefl _)
  · intro b hb
    rw [List.mem_singleton.mp hb]
    exact next_is_new F
  · intro p hp hI
    exact absurd (Heap.lt_size (N p hp).1) ((List.mem_singleton.mp hI) ▸ Nat.lt_irrefl _)
  · rintro i v m₁ news₁ h₁ tk₁ own hin ⟨t, rfl⟩ hJ hoff hown hget hfp hst F₁ N₁
    have hIown : ∃ o, ((s.heap.objs.size : Addr), o) ∈ own := ⟨_, hfp _ (.head _) (next_is_new F) _ hst⟩
    have hsep : OwnOff own (news₁.map (·.1)) := by
      intro p hp b hb e
      obtain ⟨q, hq, rfl⟩ := List.mem_map.mp hb
      exact hoff q hq (e ▸ hown p hp)
    have N₂ : News h₀ env.locals h₁ (news₁ ++ own) := fun p hp => N₁ p ((List.mem_append.mp hp).elim (fun h => List.mem_append.mpr (.inr h)) fun h => List.mem_append.mpr (.inl h))
    have e0 : (0 : Int) + (i : Int) * 1 = (i : Int) := by omega
    rw [e0]
    refine wpAny_mono (turn i t m₁ news₁ h₁ tk₁ own hin hsep hJ F₁ N₂) (fun _ s₃ h₃ => wpAny_mono h₃ (fun f s₂ p => ?_) fun _ _ e => e) fun _ _ e => e
    have fin : InvEndG h₀ env.locals (J (i + 1)) own { s with heap := h₁, toks := tk₁ } s₂ → LoopStepU h₀ env.locals [s.heap.objs.size] own (J (i + 1)) { s with heap := h₁, toks := tk₁ } .next s₂ := by
      rintro ⟨h'', tk, m', news', nx, e, F', N', hn, ho, ha, hm⟩
      refine ⟨rfl, h'', tk, m', nx, e, F', fun p hp => N' p ((List.mem_append.mp hp).elim (ho p) (hn p)), fun p hp hq => ?_, hm⟩
      obtain ⟨o, hIown⟩ := hIown
      exact ha _ hIown p.1 (List.mem_map.mpr ⟨p, hp, rfl⟩) (List.mem_singleton.mp hq).symm
    cases f with
    | ret v => exact .ret p
    | brk => exact .brk p
    | next => exact .next (fin p)
    | cont => exact .cont (fin p)
  · rintro h₁ tk m' news' F' N' _ hJ
    exact done m' news' h₁ tk hJ F' N'
end
section
variable {prog : Program} {w : World} {A : Around} {E : Value → Shared → Prop} {s : Shared} {h₀ : Heap} {L : Addr} {m : Str → Option Value} {env : Env} {news : Led}
/-- a comprehension over a list of texts whose elements are texts -/
theorem comp_strs {elt : Expr} {x : Str} {scope : Scope} {cl : List (Str × Addr)} {S : Led → Prop} {vs : List Value} {ss : List Str} {Fin : List Value → Led → Prop} (g : Str → Str) (hv : StrsAre vs ss)
    (turn : ∀ (i : Nat) (z : Str) (u : Tok) I oI C oC D m₂ ys h tk (E' : Value → Shared → Prop), ss[i]? = some z → LCg.NsObj oC m₂ → m₂ x = some (.str z u) → Fr h₀ L h m → News h₀ L h ((I, oI) :: (C, oC) :: (D, LCg.lst ys) :: news) → LCg.Off3 I C D news → ((@Ne Nat I C) ∧ (@Ne Nat I D) ∧ (@Ne Nat C D)) →
      wpAny (model prog w) A (eval elt (compEnvC scope cl C env)) (LCg.CompEnd h₀ L m { s with heap := h, toks := tk } I oI C oC D (LCg.lst ys) S (fun y news' => news' = news ∧ ∃ t : Tok, y = .str (g z) t)) E' { s with heap := h, toks := tk })
    (fin : ∀ ys, StrsAre ys (ss.map g) → Fin ys news) : LCg.CompRest prog w A h₀ L m env elt x scope cl s S (fun i v => vs.toArray[i]? = some v) Fin vs.toArray.size 0 [] news := by
  have hl := hv.length
  have at_ : ∀ {vs : List Value} {ss : List Str}, StrsAre vs ss → ∀ (i : Nat) (v : Value), vs[i]? = some v → ∃ z u, ss[i]? = some z ∧ v = .str z u := by
    intro vs ss hv
    induction hv with
    | nil => intro i v h; simp at h
    | cons z u r ih =>
      intro i v h
      cases i with
      | zero => exact ⟨z, u, rfl, by simpa using h.symm⟩
      | succ i => simpa using ih i v (by simpa using h)
  have key : ∀ (j i : Nat) (ys : List Value), i + j = ss.length → StrsAre ys ((ss.take i).map g) → LCg.CompRest prog w A h₀ L m env elt x scope cl s S (fun i v => vs.toArray[i]? = some v) Fin j i ys news := by
    intro j
    induction j with
    | zero =>
      intro i ys hi hy
      have e : i = ss.length := by omega
      subst e
      rw [List.take_length] at hy
      exact LCg.CompRest.zero (fin ys hy)
    | succ j ih =>
      intro i ys hi hy
      refine LCg.CompRest.succ ?_
      intro v I oI C oC D m₂ h tk E' hvi hC hx F N off ne
      have hvi' : vs[i]? = some v := by simpa using hvi
      obtain ⟨z, u, hz, rfl⟩ := at_ hv i v hvi'
      refine wpAny_mono (turn i z u I oI C oC D m₂ ys h tk E' hz hC hx F N off ne) (fun y s₂ hq => ?_) fun _ _ e => e
      obtain ⟨h', tk', nw, e, F', N', off', hS, hn, t', hy'⟩ := hq
      rw [hn] at N' off' hS
      refine ⟨h', tk', news, e, F', N', off', hS, ?_⟩
      rw [hy']
      dsimp only
      refine ih (i + 1) _ (by omega) ?_
      have e9 : (ss.take (i + 1)).map g = (ss.take i).map g ++ [g z] := by
        rw [List.take_add_one, hz, List.map_append]
        rfl
      rw [e9]
      exact strs_snoc9 hy
  have hsz : vs.toArray.size = ss.length := by rw [List.size_toArray]; exact hl
  rw [hsz]
  exact key ss.length 0 [] (by omega) (by simp only [List.take_zero, List.map_nil]; exact .nil)
end
end
section
/-- the words of some signs, in the order of _law_words -/
def wordsAt (f : List Nat → List (List Nat)) (l : List Nat) (i : Nat) : List (List Nat) := (f (l.take i ++ l.drop (i + 1))).map (l.getD i 0 :: ·)
def wordsTo (f : List Nat → List (List Nat)) (l : List Nat) : Nat → List (List Nat)
  | 0 => []
  | i + 1 => wordsTo f l i ++ wordsAt f l i
def wordsL : Nat → List Nat → List (List Nat)
  | 0, _ => [[]]
  | k + 1, l => if l = [] then [[]] else wordsTo (wordsL k) l l.length
theorem wordsTo_len {f : List Nat → List (List Nat)} {l : List Nat} {B : Nat} : ∀ i, (∀ j, j < i → (f (l.take j ++ l.drop (j + 1))).length ≤ B) → (wordsTo f l i).length ≤ i * B
  | 0, _ => Nat.zero_le _
  | i + 1, h => by
    have h1 := wordsTo_len i fun j hj => h j (by omega)
    have h2 := h i (by omega)
    show (wordsTo f l i ++ wordsAt f l i).length ≤ _
    rw [List.length_append, wordsAt, List.length_map, Nat.succ_mul]
    omega
theorem cut_len {l : List Nat} {i : Nat} (h : i < l.length) : (l.take i ++ l.drop (i + 1)).length = l.length - 1 := by
  rw [List.length_append, List.length_take, List.length_drop]
  omega
theorem wordsL_len : ∀ k l, l.length ≤ k → k ≤ 4 → (wordsL k l).length ≤ 4 ^ k
  | 0, _, _, _ => by simp [wordsL]
  | k + 1, l, h, h4 => by
    unfold wordsL
    split
    · exact Nat.one_le_pow _ _ (by decide)
    · have h1 := wordsTo_len (f := wordsL k) (l := l) (B := 4 ^ k) l.length fun j hj => wordsL_len k _ (by rw [cut_len hj]; omega) (by omega)
      refine Nat.le_trans h1 ?_
      rw [Nat.pow_succ, Nat.mul_comm]
      exact Nat.mul_le_mul_left _ (by omega)
theorem sgn_txt (c : Nat) (l : List Nat) : (⟨#[c]⟩ : Str) ++ txt l = txt (c :: l) := txt_app [c] l
abbrev WordsR (own : Led) (ss : List Str) (v : Value) (led' : Led) : Prop := ∃ (D : Nat) (vs : List Value) (n : Nat), v = .ref D ∧ led' = (D, listOf vs.toArray n) :: own ∧ StrsAre vs ss ∧ ∀ p ∈ own, @LT.lt Nat _ p.1 D
def WdJ (m₀ : Str → Option Value) (c1 c2 : Nat) (o2 : Obj) (own : Led) (f : List Nat → List (List Nat)) (l : List Nat) (i : Nat) (m : Str → Option Value) (nx : Led) : Prop :=
  ∃ (D : Nat) (vs : List Value) (n : Nat) (o1 : Obj) (v1 : Option Value), m = (fun y => if y = Str.ofString "found" then some (.ref D) else m₀ y) ∧ nx = (D, listOf vs.toArray n) :: (c1, o1) :: (c2, o2) :: own ∧ o1.data = .cell v1 ∧ StrsAre vs ((wordsTo f l i).map txt) ∧ c1 < D ∧ c2 < D ∧ (∀ p ∈ own, @LT.lt Nat _ p.1 D)
theorem words_end {own : Led} {D : Nat} {vs : List Value} {n : Nat} {ss : List Str} (h1 : StrsAre vs ss) (h2 : ∀ p ∈ own, @LT.lt Nat _ p.1 D) : WordsR own ss (.ref D) ((D, listOf vs.toArray n) :: own) := ⟨D, vs, n, rfl, rfl, h1, h2⟩
theorem strs_nil (t : Tok) : StrsAre [Value.str (Str.ofString "") t] [txt []] := .cons _ t .nil
theorem wordsL_nil (k : Nat) : wordsL k [] = [[]] := by
  cases k with
  | zero => rfl
  | succ k => simp [wordsL]
theorem drop3 {h₀ h : Heap} {L : Addr} {a b c : Addr × Obj} {l : Led} (N : News h₀ L h (a :: b :: c :: l)) : News h₀ L h (a :: l) := fun p hp => N p ((List.mem_cons.mp hp).elim (fun e => e ▸ .head _) fun h => .tail _ (.tail _ (.tail _ h)))
theorem wd_off {own ow : Led} {L9 : Nat} {c D : Addr} {o1 o2 o3 : Obj} (h1 : ∀ p ∈ own, @LT.lt Nat _ p.1 L9) (h2 : OwnOff ow (((D, o3) :: ((L9 + 1 + 1, o1) : Addr × Obj) :: (c, o2) :: own).map (·.1))) : ∀ p ∈ own ++ ow, @Ne Nat p.1 (L9 + 1 + 1) := fun p hp => by
  rcases List.mem_append.mp hp with hp | hp
  · have h3 : @LT.lt Nat _ p.1 L9 := h1 p hp
    omega
  · exact h2 p hp _ (.tail _ (.head _))
theorem wordsTo_mem {f : List Nat → List (List Nat)} {l x : List Nat} : ∀ i, x ∈ wordsTo f l i → ∃ j, j < i ∧ x ∈ wordsAt f l j
  | 0, h => nomatch h
  | i + 1, h => by
    rcases List.mem_append.mp h with h | h
    · obtain ⟨j, hj, hx⟩ := wordsTo_mem i h
      exact ⟨j, by omega, hx⟩
    · exact ⟨i, by omega, h⟩
theorem wordsL_word : ∀ k l, ∀ x ∈ wordsL k l, x.length ≤ l.length
  | 0, l, x, h => by
    rw [List.mem_singleton.mp h]; exact Nat.zero_le _
  | k + 1, l, x, h => by
    unfold wordsL at h
    split at h
    · rw [List.mem_singleton.mp h]; exact Nat.zero_le _
    · obtain ⟨j, hj, hx⟩ := wordsTo_mem _ h
      obtain ⟨z, hz, rfl⟩ := List.mem_map.mp hx
      have h1 := wordsL_word k _ z hz
      rw [cut_len hj] at h1
      rw [List.length_cons]
      omega
theorem strs_app : ∀ {vs : List Value} {ss : List Str} {ws : List Value} {ts : List Str}, StrsAre vs ss → StrsAre ws ts → StrsAre (vs ++ ws) (ss ++ ts)
  | _, _, _, _, .nil, h => h
  | _, _, _, _, .cons x t r, h => .cons x t (strs_app r h)
theorem words_step {f : List Nat → List (List Nat)} {l : List Nat} {i c : Nat} (hc : l[i]? = some c) : (wordsTo f l (i + 1)).map txt = (wordsTo f l i).map txt ++ ((f (l.take i ++ l.drop (i + 1))).map txt).map (fun z => (⟨#[c]⟩ : Str) ++ z) := by
  show (wordsTo f l i ++ wordsAt f l i).map txt = _
  rw [List.map_append, wordsAt, List.map_map, List.map_map]
  congr 1
  refine List.map_congr_left fun x _ => ?_
  show txt (l.getD i 0 :: x) = (⟨#[c]⟩ : Str) ++ txt x
  rw [sgn_txt, List.getD_eq_getElem?_getD, hc]
  rfl
theorem found_twice {a : Str} {x z : Option Value} {m : Str → Option Value} : (fun y => if y = a then x else if y = a then z else m y) = fun y => if y = a then x else m y := by
  funext y
  by_cases h : y = a
  · rw [if_pos h, if_pos h]
  · rw [if_neg h, if_neg h, if_neg h]
theorem wd_off2 {ow own : Led} {D Dn c1 c2 : Addr} {o1 o2 o3 o1' o3' : Obj} (h1 : ∀ p ∈ ow, @LT.lt Nat _ p.1 Dn) (h2 : OwnOff ow (((D, o3) :: (c1, o1) :: (c2, o2) :: own).map (·.1))) : OwnOff ow (((Dn, o3') :: (c1, o1') :: (c2, o2) :: own).map (·.1)) := fun p hp b hb => by
  rcases List.mem_cons.mp hb with rfl | hb
  · exact Nat.ne_of_lt (h1 p hp)
  · exact h2 p hp b (.tail _ hb)
theorem wordsL_succ {k : Nat} {l : List Nat} (h : l ≠ []) : wordsL (k + 1) l = wordsTo (wordsL k) l l.length := by
  show (if l = [] then [[]] else wordsTo (wordsL k) l l.length) = _
  rw [if_neg h]
end
section
local macro_rules | `(tactic| walk_at "call ref") => `(tactic| (k_here; (with_reducible show wpAny _ _ (call (Value.ref 139) _) _ _ _); refine Stop.out ?_))
local macro_rules | `(tactic| walk_at "exec For Name Call cons nil") => `(tactic| (k_here; (rename Fr _ _ _ _ => lF'); (with_unfolding_all refine' For_turns lF' ?_; k_whole)))
local macro_rules | `(tactic| walk_at "pyIter ref") => `(tactic| (k_here; (with_reducible show wpAny _ _ (pyIter (Value.ref _)) (fun it s₂ => TurnsAt _ _ _ _ _ _ _ _ _ it s₂) _ _); refine Stop.out ?_))
local macro_rules | `(tactic| walk_at "CompSrc") => `(tactic| (k_here; refine Stop.out ?_))
local macro_rules | `(tactic| walk_at "binaryOp Add str str") => `(tactic| (k_here; refine Stop.out ?_))
local macro_rules | `(tactic| walk_at "binaryOp Add ref ref") => `(tactic| (k_here; refine Stop.out ?_))
local macro_rules | `(tactic| k_all) => `(tactic| (first | assumption | (refine allOff (by assumption) ?_; (try dsimp only); omega)))
set_option maxRecDepth 100000 in
set_option maxHeartbeats 8000000 in
theorem words_con (w : World) (mean : ExcName → Option Value) (mg mb : Str → Option Value) : ∀ (N9 : Nat) (own : Led) (word : Str) (tw : Tok), word.length ≤ N9 → N9 ≤ 3 → (∀ c ∈ word.cps.toList, c < 128) →
   Con w mean mg mb 139 (4 + 8 * N9) (100 + 200 * N9) own [.str word tw] (WordsR own ((wordsL N9 word.cps.toList).map txt)) := by
  intro N9
  induction N9 with
  | zero =>
    intro own word tw hN h5 hl
    have hw : word = ⟨#[]⟩ := by
      refine PySem.Str.ext' (Array.toList_inj.mp ?_)
      refine List.eq_nil_of_length_eq_zero ?_
      have hwl : word.cps.toList.length = word.length := Array.length_toList
      omega
    subst hw
    unfold Con
    k_fill
    intro dp un gd cn cs a ccd cl outer A₀ base h₀ L m s Q E hB F X N T hk hd hu hret
    refine wpAny_call ?_
    k_dflt k_enter
    have hMark := kstMark
    k_steps
    rename News _ _ _ (_ :: _) => N4
    rename _ ∧ _ ∧ AllLt _ own => l9
    exact hret _ _ _ _ (words_end (n := 0) (strs_nil _) (kst_ltOf l9.2.2)) (by k_asm) (drop3 N4)
  | succ N9 ih =>
    intro own word tw hN h5 hl
    unfold Con
    k_fill
    intro dp un gd cn cs a ccd cl outer A₀ base h₀ L m s Q E hB F X N T hk hd hu hret
    refine wpAny_call ?_
    k_dflt k_enter
    have hMark := kstMark
    k_steps
    · rename (word == _) = true => hw9
      have hw := eq_of_beq hw9
      subst hw
      rename News _ _ _ (_ :: _) => N4
      rename _ ∧ _ ∧ AllLt _ own => l9
      exact hret _ _ _ _ (words_end (n := 0) (strs_nil _) (kst_ltOf l9.2.2)) (by k_asm) (drop3 N4)
    · rename (word == _) = false => hw9
      have hne : word.cps.toList ≠ [] := fun h => by
        have : word = ⟨#[]⟩ := PySem.Str.ext' (Array.toList_inj.mp h)
        rw [this] at hw9
        exact absurd hw9 (by decide)
      have hwl : word.cps.toList.length = word.length := Array.length_toList
      unfold Stop
      rename IsRange _ _ _ _ _ _ _ _ => rg9
      rename Fr _ _ _ _ => F2
      rename News _ _ _ (_ :: _) => N2
      rename _ ∧ _ ∧ AllLt _ own => l9
      rename ∀ p ∈ own, p.1 < _ => hlt2
      have hb8 := kst_ltOf l9.2.2
      have hb1 := l9.1
      have hb2 := l9.2.1
      refine' turnsN (WdJ _ _ _ _ own (wordsL N9) word.cps.toList) rfl rg9 (by omega) F2 N2 ⟨_, [], _, _, _, rfl, rfl, (by assumption), .nil, hb1, hb2, hb8⟩ ?_ ?_
      · clear F2 N2 rg9
        rintro i t m₁ news₁ h2 tk2 ow hi hof ⟨D, vs, n, o1, v1, rfl, rfl, hd1, hvs, hD1, hD2, hDo⟩ F1 N1
        have hoff9 := wd_off hlt2 hof
        rw [List.cons_append, List.cons_append, List.cons_append] at N1
        obtain ⟨tl, htl⟩ : ∃ tl, tl = own ++ ow := ⟨_, rfl⟩
        rw [← htl] at N1 hoff9
        k_sweep
        k_steps
        unfold Stop
        have hci : ∃ c, word.cps.toList[i]? = some c := ⟨_, List.getElem?_eq_getElem (by omega)⟩
        obtain ⟨c, hci⟩ := hci
        have hcut := cut_len (l := word.cps.toList) (i := i) (by omega)
        rw [slice_to_txt (by omega), slice_from_txt (by omega)]
        refine SBL.add (hsz := ?hsz1) ?_
        case hsz1 =>
          rw [txt_len, txt_len, List.length_take, List.length_drop, PySem.sizeLine_eq]
          omega
        intro t7 k7 _
        rw [txt_app]
        (try dsimp only)
        k_steps
        unfold Stop
        refine' ih _ (txt (word.cps.toList.take i ++ word.cps.toList.drop (i + 1))) _ ?g1 ?g2 ?g3 _ _ _ _ _ _ _ _ _ _ _ _ _ _ _ _ _ ?k1 ?k2 ?k3 ?k4 ?k5 ?kK ?kd ?ku ?kR
        (case g1 => rw [txt_len]; omega); (case g2 => omega); (case g3 => intro c hc; rw [txt_list] at hc; exact hl c ((List.mem_append.mp hc).elim List.mem_of_mem_take List.mem_of_mem_drop))
        (case k1 => k_asm); (case k2 => k_asm); (case k3 => k_asm); (case k4 => k_asm); (case k5 => k_asm); (case kK => first | exact rfl | assumption); (case kd => ktr_room); (case ku => ktr_units)
        intro v9 led9 h9 tk9 r9 F9 N9'
        obtain ⟨D9, vs9, n9, e9, e9', hvs9, hD9⟩ := r9
        subst e9 e9'
        rw [txt_list] at hvs9
        have hlen9 := hvs9.length
        rw [List.length_map] at hlen9
        have hwB := wordsL_len N9 (word.cps.toList.take i ++ word.cps.toList.drop (i + 1)) (by omega) (by omega)
        have h64 : (4 : Nat) ^ N9 ≤ 4 ^ 2 := Nat.pow_le_pow_right (by decide) (by omega)
        (try dsimp only)
        k_steps
        unfold Stop
        refine LCg.CompSrc.ledger (by rfl) (by k_asm) (by k_asm) (by k_mem) (by rw [List.size_toArray, PySem.sizeLine_eq]; omega) ?_
        intro g9
        refine comp_strs (fun z => (⟨#[c]⟩ : Str) ++ z) hvs9 ?_ ?_
        · intro i2 z2 u2 I2 oI2 C2 oC2 D2 m22 ys2 h2' tk2' E2 hz2 hC2 hx2 F3 N3 off2 ne2
          k_steps
          unfold Stop
          have hzl : z2.length ≤ 5 := by
            obtain ⟨x, hx, rfl⟩ := List.mem_map.mp (List.mem_of_getElem? hz2)
            have := wordsL_word _ _ x hx
            rw [txt_len]
            omega
          rw [item_txt hci]
          refine SBL.add (hsz := ?hsz2) ?_
          case hsz2 =>
            rw [PySem.sizeLine_eq]
            show 1 + _ ≤ _
            omega
          intro t6 k6 _
          (try dsimp only)
          k_steps
        · intro ys hys
          k_steps
          unfold Stop
          rename Fr _ _ _ _ => F2
          rename News _ _ _ (_ :: _) => N2
          have hl1 := hvs.length
          have hl2 := hys.length
          have hl3 := wordsTo_len (f := wordsL N9) (l := word.cps.toList) (B := 16) i (fun j hj => Nat.le_trans (wordsL_len N9 _ (by rw [cut_len (by omega)]; omega) (by omega)) h64)
          have hl4 : i * 16 ≤ 3 * 16 := Nat.mul_le_mul_right _ (by omega)
          rw [List.length_map] at hl1
          rw [List.length_map, List.length_map] at hl2
          refine kmk_add_lit F2 N2 (News.isList N2 (by k_mem)) (News.isList N2 (by k_mem)) (zs := vs ++ ys) (by simp) ?_ (by rw [PySem.sizeLine_eq]; simp only []; omega)
          intro Dn hn' F3 N3 hlt3
          (try dsimp only)
          k_steps
          rename Fr _ _ _ _ => F4
          rename News _ _ _ (_ :: _) => N4
          refine InvEndG.intro F4 N4 ⟨Dn, vs ++ ys, 0, _, _, found_twice, rfl, (by assumption), (words_step hci) ▸ strs_app hvs hys, hlt3 _ (.tail _ (.tail _ (.tail _ (.head _)))), hlt3 _ (.tail _ (.tail _ (.tail _ (.tail _ (.head _))))), fun p hp => hlt3 p (.tail _ (.tail _ (.tail _ (.tail _ (.tail _ ?_)))))⟩ (wd_off2 (fun p hp => hlt3 p (.tail _ (.tail _ (.tail _ (.tail _ (.tail _ ?_)))))) hof) (fun p hp => ?_) (fun p hp => ?_)
          · rw [htl]; exact List.mem_append_left _ hp
          · rw [htl]; exact List.mem_append_right _ hp
          · rcases List.mem_cons.mp hp with rfl | hp
            · exact .head _
            refine .tail _ (.tail _ (.tail _ (.tail _ ?_)))
            rcases List.mem_cons.mp hp with rfl | hp
            · exact .head _
            rcases List.mem_cons.mp hp with rfl | hp
            · exact .tail _ (.head _)
            · rw [htl]; exact .tail _ (.tail _ (List.mem_append_left _ hp))
          · refine .tail _ (.tail _ (.tail _ (.tail _ (.tail _ (.tail _ ?_)))))
            rw [htl]; exact List.mem_append_right _ hp
      · (try clear F2); (try clear N2); (try clear rg9)
        rintro m₁ news₁ h2 tk2 ⟨D, vs, n, o1, v1, rfl, rfl, hd1, hvs, hD1, hD2, hDo⟩ F1 N1
        k_sweep
        k_steps
        rename News _ _ _ (_ :: _) => N4
        rw [← hwl, ← wordsL_succ hne] at hvs
        exact hret _ _ _ _ (words_end (n := n) hvs hDo) (by k_asm) (drop3 N4)
end
section
local macro_rules | `(tactic| k_all) => `(tactic| (first | assumption | (refine allOff (by assumption) ?_; (try dsimp only); omega)))
theorem mod_nat {x b : Int} (h : 0 < b) : ∃ r : Nat, x.fmod b = (r : Int) ∧ (r : Int) < b := by
  refine ⟨(x.fmod b).toNat, ?_, ?_⟩
  · rw [Int.toNat_of_nonneg (Int.fmod_nonneg_of_pos x h)]
  · rw [Int.toNat_of_nonneg (Int.fmod_nonneg_of_pos x h)]
    exact Int.fmod_lt_of_pos x h
set_option maxRecDepth 100000 in
set_option maxHeartbeats 8000000 in
theorem which_con (w : World) (mean : ExcName → Option Value) (mg mb : Str → Option Value) (own : Led) (bg sl : Nat) (vs : List Value) (ns : List Int) (k : Nat) (below : Int) (tk0 tb : Tok) (nb nsl : Nat)
   (hi : IntsAre vs ns) (hl : ns.length ≤ 5) (hk5 : k ≤ 5) (hb0 : 0 < below) (hb5 : below ≤ 5) (hbs : bg ≠ sl) (hoff : ∀ p ∈ own, @Ne Nat p.1 bg) :
   Con w mean mg mb 134 5 100 ((bg, listOf #[.ref sl, .int (k : Int) tk0] nb) :: (sl, listOf vs.toArray nsl) :: own) [.ref bg, .int below tb]
     (fun v led' => ∃ (r : Nat) (t t2 : Tok) (nb' : Nat), v = .int (r : Int) t ∧ (r : Int) < below ∧ led' = (bg, listOf #[.ref sl, .int ((k + 1 : Nat) : Int) t2] nb') :: (sl, listOf vs.toArray nsl) :: own) := by
    unfold Con
    k_fill
    intro dp un gd cn cs a ccd cl outer A₀ base h₀ L m s Q E hB F X N T hk hd hu hret
    refine wpAny_call ?_
    k_dflt k_enter
    have hMark := kstMark
    k_steps
    · rename News _ _ _ (_ :: _) => N4
      refine hret _ _ _ _ ?_ (by k_asm) N4
      obtain ⟨r, hr, hrb⟩ := mod_nat (x := if ns.getD (k : Int).toNat 0 < 0 then -ns.getD (k : Int).toNat 0 else ns.getD (k : Int).toNat 0) hb0
      exact ⟨r, _, _, _, congrArg (fun z => Value.int z _) hr, hrb, rfl⟩
    · rename News _ _ _ (_ :: _) => N4
      refine hret _ _ _ _ ?_ (by k_asm) N4
      obtain ⟨r, hr, hrb⟩ := mod_nat (x := 4 * (k : Int) + 2) hb0
      exact ⟨r, _, _, _, congrArg (fun z => Value.int z _) hr, hrb, rfl⟩
end
section
def abcde : List Nat := [65, 66, 67, 68, 69]
/-- what the law asks of one word of five -/
def goodW (l : List Nat) : Bool := (throughL l == dueL 5 l) && ((throughL l == abcde) == freeL l) && l.length == 5 && l.all (fun c => decide (c < 128))
def passW : Nat → List Nat → List Nat
  | 0, l => l
  | k + 1, l => throughL (passW k l)
def lastW (k : Nat) (l : List Nat) : Bool := l.drop (5 - k) == abcde.drop (5 - k)
/-- all the ways to draw the five signs one after the other -/
def drawn : Nat → List (List Nat × List Nat)
  | 0 => [([], abcde)]
  | i + 1 => (drawn i).flatMap fun q => (List.range q.2.length).map fun r => (q.1 ++ [q.2.getD r 0], q.2.take r ++ q.2.drop (r + 1))
def words5 : List (List Nat) := (drawn 5).map (·.1)
/-- one word: what is asked of it, and where one pass leads -/
def stepW (l : List Nat) : Bool := goodW l && words5.contains (throughL l) && (List.range 4).all (fun k => !lastW k l || lastW (k + 1) (throughL l)) && (!lastW 4 l || l == abcde) && lastW 0 l
set_option maxRecDepth 100000 in
theorem step_a : ((words5.take 40).all stepW) = true := by decide +kernel
set_option maxRecDepth 100000 in
theorem step_b : (((words5.drop 40).take 40).all stepW) = true := by decide +kernel
set_option maxRecDepth 100000 in
theorem step_c : (((words5.drop 40).drop 40).all stepW) = true := by decide +kernel
theorem all_parts {α : Type} (p : α → Bool) (l : List α) (n : Nat) (h1 : (l.take n).all p = true) (h2 : (l.drop n).all p = true) : ∀ x ∈ l, p x = true := by
  intro x hx
  rw [← List.take_append_drop n l] at hx
  rcases List.mem_append.mp hx with h | h
  · exact List.all_eq_true.mp h1 x h
  · exact List.all_eq_true.mp h2 x h
theorem step_all : ∀ l ∈ words5, stepW l = true := by
  refine all_parts _ _ 40 step_a ?_
  rw [List.all_eq_true]
  exact all_parts _ _ 40 step_b step_c
theorem step_parts {l : List Nat} (h : l ∈ words5) : goodW l = true ∧ throughL l ∈ words5 ∧ (∀ k, k < 4 → lastW k l = true → lastW (k + 1) (throughL l) = true) ∧ (lastW 4 l = true → l = abcde) ∧ lastW 0 l = true := by
  have hs := step_all l h
  unfold stepW at hs
  rw [Bool.and_eq_true_iff, Bool.and_eq_true_iff, Bool.and_eq_true_iff, Bool.and_eq_true_iff] at hs
  obtain ⟨⟨⟨⟨h1, h2⟩, h3⟩, h4⟩, h5⟩ := hs
  refine ⟨h1, List.contains_iff_mem.mp h2, fun k hk hl => ?_, fun hl => ?_, h5⟩
  · have := List.all_eq_true.mp h3 k (List.mem_range.mpr hk)
    rw [hl] at this
    simpa using this
  · rw [hl] at h4
    simpa using h4
theorem pass_in {l : List Nat} (h : l ∈ words5) : ∀ k, passW k l ∈ words5
  | 0 => h
  | k + 1 => (step_parts (pass_in h k)).2.1
theorem pass_last {l : List Nat} (h : l ∈ words5) : ∀ k, k ≤ 4 → lastW k (passW k l) = true
  | 0, _ => (step_parts h).2.2.2.2
  | k + 1, hk => (step_parts (pass_in h k)).2.2.1 k (by omega) (pass_last h k (by omega))
theorem drawn_step {i : Nat} {wd lf : List Nat} (h : (wd, lf) ∈ drawn i) {r c : Nat} (hr : r < lf.length) (hc : lf[r]? = some c) : (wd ++ [c], lf.take r ++ lf.drop (r + 1)) ∈ drawn (i + 1) := by
  refine List.mem_flatMap.mpr ⟨_, h, List.mem_map.mpr ⟨r, List.mem_range.mpr hr, ?_⟩⟩
  show (wd ++ [lf.getD r 0], _) = _
  rw [List.getD_eq_getElem?_getD, hc]
  rfl
theorem drawn_len : ∀ {i : Nat} {q : List Nat × List Nat}, q ∈ drawn i → i ≤ 5 → q.1.length = i ∧ q.2.length = 5 - i
  | 0, q, h, _ => by rw [List.mem_singleton.mp h]; exact ⟨rfl, rfl⟩
  | i + 1, q, h, hi => by
    obtain ⟨q', h', hq⟩ := List.mem_flatMap.mp h
    obtain ⟨r, hr, rfl⟩ := List.mem_map.mp hq
    have := drawn_len h' (by omega)
    have hr' := List.mem_range.mp hr
    simp only [List.length_append, List.length_cons, List.length_nil, List.length_take, List.length_drop]
    omega
theorem words_of {wd lf : List Nat} (h : (wd, lf) ∈ drawn 5) : wd ∈ words5 := List.mem_map.mpr ⟨(wd, lf), h, rfl⟩
theorem check_good {l : List Nat} (h : l ∈ words5) {i : Nat} (hi : i < 4) : goodW (passW i l) = true ∧ (passW (i + 1) l).drop (4 - i) = abcde.drop (4 - i) := by
  refine ⟨(step_parts (pass_in h i)).1, ?_⟩
  have h1 := pass_last h (i + 1) (by omega)
  unfold lastW at h1
  have e : 5 - (i + 1) = 4 - i := by omega
  rw [e] at h1
  exact eq_of_beq h1
theorem check_end {l : List Nat} (h : l ∈ words5) : passW 4 l = abcde := (step_parts (pass_in h 4)).2.2.2.1 (pass_last h 4 (Nat.le_refl 4))
theorem txt_beq (a b : List Nat) : (txt a == txt b) = (a == b) := by
  rw [Bool.eq_iff_iff, beq_iff_eq, beq_iff_eq]
  constructor
  · intro h
    rw [← txt_list a, h, txt_list]
  · intro h
    rw [h]
theorem good_parts {l : List Nat} (h : goodW l = true) : throughF (txt l) = txt (dueL 5 l) ∧ freeL l = (throughF (txt l) == Str.ofString "ABCDE") ∧ l.length = 5 ∧ ∀ c ∈ l, c < 128 := by
  unfold goodW at h
  simp only [Bool.and_eq_true, beq_iff_eq, List.all_eq_true, decide_eq_true_eq] at h
  obtain ⟨⟨⟨h1, h2⟩, h3⟩, h4⟩ := h
  have e : throughF (txt l) = txt (throughL l) := by unfold throughF; rw [txt_list]; rfl
  refine ⟨by rw [e, h1], ?_, h3, h4⟩
  rw [e, show Str.ofString "ABCDE" = txt abcde from rfl, txt_beq]
  exact h2.symm
def ws6 : List Str := [Str.ofString "ABC", Str.ofString "ACB", Str.ofString "BAC", Str.ofString "BCA", Str.ofString "CAB", Str.ofString "CBA"]
set_option maxRecDepth 100000 in
theorem ws6_good : ∀ z ∈ ws6, z.length = 3 ∧ (∀ c ∈ z.cps.toList, c < 128) ∧ throughF z = txt (dueL 5 z.cps.toList) ∧ freeL z.cps.toList = (throughF z == Str.ofString "ABC") := by decide +kernel
set_option maxRecDepth 100000 in
theorem ws6_right : ws6.filter (fun z => throughF z == Str.ofString "ABC") = [Str.ofString "ABC", Str.ofString "ACB", Str.ofString "BAC", Str.ofString "CAB", Str.ofString "CBA"] := by decide +kernel
end
section
section
variable {prog : Program} {w : World} {A : Around} {E : Value → Shared → Prop} {s : Shared} {env : Env} {h₀ : Heap} {x : Str} {body : List Stmt} {Q : Flow → Shared → Prop}
theorem strs_at : ∀ {vs : List Value} {ss : List Str}, StrsAre vs ss → ∀ (i : Nat) (v : Value), vs[i]? = some v → ∃ z u, ss[i]? = some z ∧ v = .str z u := by
  intro vs ss hv
  induction hv with
  | nil => intro i v h; simp at h
  | cons z u r ih =>
    intro i v h
    cases i with
    | zero => exact ⟨z, u, rfl, by simpa using h.symm⟩
    | succ i => simpa using ih i v (by simpa using h)
/-- a loop over a new list of texts; the turns may make objects that stay -/
theorem iter_strsG {D : Addr} {vs : List Value} {ss : List Str} {n : Nat} {m₀ : Str → Option Value} {news : Led} (J : Nat → (Str → Option Value) → Led → Prop)
    (hh : A.handled = none) (hv : StrsAre vs ss) (F : Fr h₀ env.locals s.heap m₀) (N : News h₀ env.locals s.heap ((D, listOf vs.toArray n) :: news)) (hD : ∀ p ∈ news, p.1 ≠ D) (hj : J 0 m₀ news)
    (turn : ∀ (i : Nat) (z : Str) (u : Tok) m₁ news₁ h tk own, ss[i]? = some z → OwnOff own (news₁.map (·.1)) → J i m₁ news₁ → Fr h₀ env.locals h (fun y => if y = x then some (.str z u) else m₁ y) → News h₀ env.locals h (news₁ ++ own) →
      wpAny (model prog w) A (execs body env) (InvPostG h₀ env.locals (J (i + 1)) own { s with heap := h, toks := tk } Q) E { s with heap := h, toks := tk })
    (done : ∀ m₁ news₁ h tk, J ss.length m₁ news₁ → Fr h₀ env.locals h m₁ → News h₀ env.locals h news₁ → Q .next { s with heap := h, toks := tk }) :
    wpAny (model prog w) A (pyIter (.ref D)) (fun it s₂ => LoopAtV prog w A h₀ env x body Q E it s₂) E s := by
  have hDm := N _ (.head _)
  have hl : s.heap.IsList D vs.toArray := ⟨_, hDm.1, rfl, n, rfl⟩
  have hlt : D < s.heap.objs.size := Heap.lt_size hDm.1
  have hne : D ≠ s.heap.objs.size := Nat.ne_of_lt hlt
  refine wpAny_pyIter_list hl ?_
  have N0 : News h₀ env.locals s.heap news := fun p hp => N p (.tail _ hp)
  have hsz : vs.toArray.size = ss.length := by rw [List.size_toArray]; exact hv.length
  refine ⟨s.heap.objs.size, _, _, _, _, _, m₀, news, fun i m nx => (∀ p ∈ nx, p.1 ≠ D) ∧ J i m nx, rfl, Walks.list hh s.heap.objs.size D hne vs.toArray, ?_, ?_, ?_, ⟨⟨_, Heap.get?_push_size _ rfl, rfl, rfl⟩, hl.push _⟩, F.push _, (fun p hp => ⟨Heap.get?_push_of_some _ (N0 p hp).1, (N0 p hp).2⟩), ⟨hD, hj⟩, ?_, ?_⟩
  · intro hm
    rcases List.mem_cons.mp hm with e | hm
    · exact absurd F.ns.lt (e ▸ Nat.lt_irrefl _)
    · exact hDm.2.1 (List.mem_singleton.mp hm).symm
  · intro b hb
    rw [List.mem_singleton.mp hb]
    exact next_is_new F
  · intro p hp hI
    exact absurd (Heap.lt_size (N0 p hp).1) ((List.mem_singleton.mp hI) ▸ Nat.lt_irrefl _)
  · rintro i v m₁ news₁ s₁ own ⟨hh', tk', rfl⟩ hin hP ⟨hDn, hJ⟩ hoff hown hget hfp hst F₁ N₁
    obtain ⟨⟨oI, hoI, _⟩, ⟨oD, hoD, _⟩⟩ := id hst
    have hIown : ((s.heap.objs.size : Addr), oI) ∈ own := hfp _ (by simp) (next_is_new F) _ hoI
    have hDown : (D, oD) ∈ own := hfp _ (by simp) hDm.2.2 _ hoD
    have hsep : OwnOff own (news₁.map (·.1)) := by
      intro p hp b hb e
      obtain ⟨q, hq, rfl⟩ := List.mem_map.mp hb
      rcases List.mem_cons.mp (hown p hp) with e1 | h1
      · exact hoff q hq (by rw [← e, e1]; exact .head _)
      · exact hDn q hq (e.symm.trans (List.mem_singleton.mp h1))
    have N₂ : News h₀ env.locals hh' (news₁ ++ own) := fun p hp => N₁ p ((List.mem_append.mp hp).elim (fun h => List.mem_append.mpr (.inr h)) fun h => List.mem_append.mpr (.inl h))
    obtain ⟨z, u, hz, rfl⟩ := strs_at hv i v (by simpa using hP)
    refine wpAny_mono (turn i z u m₁ news₁ hh' tk' own hz hsep hJ F₁ N₂) (fun f s₂ p => ?_) fun _ _ e => e
    have fin : InvEndG h₀ env.locals (J (i + 1)) own { s with heap := hh', toks := tk' } s₂ → LoopStepU h₀ env.locals [s.heap.objs.size] own (fun m nx => (∀ p ∈ nx, p.1 ≠ D) ∧ J (i + 1) m nx) { s with heap := hh', toks := tk' } .next s₂ := by
      rintro ⟨h', tk, m', news', nx, e, F', N', hn, ho, ha, hm⟩
      refine ⟨rfl, h', tk, m', nx, e, F', fun p hp => N' p ((List.mem_append.mp hp).elim (ho p) (hn p)), fun p hp hq => ?_, fun p hp e => ?_, hm⟩
      · exact ha _ hIown p.1 (List.mem_map.mpr ⟨p, hp, rfl⟩) (List.mem_singleton.mp hq).symm
      · exact ha _ hDown p.1 (List.mem_map.mpr ⟨p, hp, rfl⟩) e.symm
    cases f with
    | ret v => exact .ret p
    | brk => exact .brk p
    | next => exact .next (fin p)
    | cont => exact .cont (fin p)
  · rintro h' tk m' news' F' N' _ ⟨_, hJ⟩
    rw [hsz] at hJ
    exact done m' news' h' tk hJ F' N'
end
end
section
section
variable {prog : Program} {w : World} {A : Around} {E : Value → Shared → Prop} {s : Shared} {env : Env} {h₀ : Heap} {x : Str} {body : List Stmt} {Q : Flow → Shared → Prop}
theorem ints_at : ∀ {vs : List Value} {ns : List Int}, IntsAre vs ns → ∀ (i : Nat) (v : Value), vs[i]? = some v → ∃ z u, ns[i]? = some z ∧ v = .int z u := by
  intro vs ns hv
  induction hv with
  | nil => intro i v h; simp at h
  | cons z u r ih =>
    intro i v h
    cases i with
    | zero => exact ⟨z, u, rfl, by simpa using h.symm⟩
    | succ i => simpa using ih i v (by simpa using h)
/-- a loop over a new tuple of ints; the turns may make objects that stay -/
theorem iter_tupG {D : Addr} {vs : List Value} {ns : List Int} {n : Nat} {m₀ : Str → Option Value} {news : Led} (J : Nat → (Str → Option Value) → Led → Prop)
    (hh : A.handled = none) (hv : IntsAre vs ns) (F : Fr h₀ env.locals s.heap m₀) (N : News h₀ env.locals s.heap ((D, ({ cls := .type "tuple", data := .seq vs.toArray n } : Obj)) :: news)) (hD : ∀ p ∈ news, p.1 ≠ D) (hj : J 0 m₀ news)
    (turn : ∀ (i : Nat) (z : Int) (u : Tok) m₁ news₁ h tk own, ns[i]? = some z → OwnOff own (news₁.map (·.1)) → J i m₁ news₁ → Fr h₀ env.locals h (fun y => if y = x then some (.int z u) else m₁ y) → News h₀ env.locals h (news₁ ++ own) →
      wpAny (model prog w) A (execs body env) (InvPostG h₀ env.locals (J (i + 1)) own { s with heap := h, toks := tk } Q) E { s with heap := h, toks := tk })
    (done : ∀ m₁ news₁ h tk, J ns.length m₁ news₁ → Fr h₀ env.locals h m₁ → News h₀ env.locals h news₁ → Q .next { s with heap := h, toks := tk }) :
    wpAny (model prog w) A (pyIter (.ref D)) (fun it s₂ => LoopAtV prog w A h₀ env x body Q E it s₂) E s := by
  have hDm := N _ (.head _)
  have hl : s.heap.IsTuple D vs.toArray := ⟨_, hDm.1, rfl, n, rfl⟩
  have hlt : D < s.heap.objs.size := Heap.lt_size hDm.1
  have hne : D ≠ s.heap.objs.size := Nat.ne_of_lt hlt
  refine wpAny_pyIter_tuple hl ?_
  have N0 : News h₀ env.locals s.heap news := fun p hp => N p (.tail _ hp)
  have hsz : vs.toArray.size = ns.length := by rw [List.size_toArray]; exact IntsAre.length hv
  refine ⟨s.heap.objs.size, _, _, _, _, _, m₀, news, fun i m nx => (∀ p ∈ nx, p.1 ≠ D) ∧ J i m nx, rfl, Walks.tuple hh s.heap.objs.size D hne vs.toArray, ?_, ?_, ?_, ⟨⟨_, Heap.get?_push_size _ rfl, rfl, rfl⟩, hl.at fun o e => Heap.get?_push_of_some _ e⟩, F.push _, (fun p hp => ⟨Heap.get?_push_of_some _ (N0 p hp).1, (N0 p hp).2⟩), ⟨hD, hj⟩, ?_, ?_⟩
  · intro hm
    rcases List.mem_cons.mp hm with e | hm
    · exact absurd F.ns.lt (e ▸ Nat.lt_irrefl _)
    · exact hDm.2.1 (List.mem_singleton.mp hm).symm
  · intro b hb
    rw [List.mem_singleton.mp hb]
    exact next_is_new F
  · intro p hp hI
    exact absurd (Heap.lt_size (N0 p hp).1) ((List.mem_singleton.mp hI) ▸ Nat.lt_irrefl _)
  · rintro i v m₁ news₁ s₁ own ⟨hh', tk', rfl⟩ hin hP ⟨hDn, hJ⟩ hoff hown hget hfp hst F₁ N₁
    obtain ⟨⟨oI, hoI, _⟩, ⟨oD, hoD, _⟩⟩ := id hst
    have hIown : ((s.heap.objs.size : Addr), oI) ∈ own := hfp _ (by simp) (next_is_new F) _ hoI
    have hDown : (D, oD) ∈ own := hfp _ (by simp) hDm.2.2 _ hoD
    have hsep : OwnOff own (news₁.map (·.1)) := by
      intro p hp b hb e
      obtain ⟨q, hq, rfl⟩ := List.mem_map.mp hb
      rcases List.mem_cons.mp (hown p hp) with e1 | h1
      · exact hoff q hq (by rw [← e, e1]; exact .head _)
      · exact hDn q hq (e.symm.trans (List.mem_singleton.mp h1))
    have N₂ : News h₀ env.locals hh' (news₁ ++ own) := fun p hp => N₁ p ((List.mem_append.mp hp).elim (fun h => List.mem_append.mpr (.inr h)) fun h => List.mem_append.mpr (.inl h))
    obtain ⟨z, u, hz, rfl⟩ := ints_at hv i v (by simpa using hP)
    refine wpAny_mono (turn i z u m₁ news₁ hh' tk' own hz hsep hJ F₁ N₂) (fun f s₂ p => ?_) fun _ _ e => e
    have fin : InvEndG h₀ env.locals (J (i + 1)) own { s with heap := hh', toks := tk' } s₂ → LoopStepU h₀ env.locals [s.heap.objs.size] own (fun m nx => (∀ p ∈ nx, p.1 ≠ D) ∧ J (i + 1) m nx) { s with heap := hh', toks := tk' } .next s₂ := by
      rintro ⟨h', tk, m', news', nx, e, F', N', hn, ho, ha, hm⟩
      refine ⟨rfl, h', tk, m', nx, e, F', fun p hp => N' p ((List.mem_append.mp hp).elim (ho p) (hn p)), fun p hp hq => ?_, fun p hp e => ?_, hm⟩
      · exact ha _ hIown p.1 (List.mem_map.mpr ⟨p, hp, rfl⟩) (List.mem_singleton.mp hq).symm
      · exact ha _ hDown p.1 (List.mem_map.mpr ⟨p, hp, rfl⟩) e.symm
    cases f with
    | ret v => exact .ret p
    | brk => exact .brk p
    | next => exact .next (fin p)
    | cont => exact .cont (fin p)
  · rintro h' tk m' news' F' N' _ ⟨_, hJ⟩
    rw [hsz] at hJ
    exact done m' news' h' tk hJ F' N'
end
end
section
local macro_rules | `(tactic| walk_at "call ref") => `(tactic| (k_here; (first | (with_reducible show wpAny _ _ (call (Value.ref 134) _) _ _ _) | (with_reducible show wpAny _ _ (call (Value.ref 139) _) _ _ _) | (with_reducible show wpAny _ _ (call (Value.ref 144) _) _ _ _) | (with_reducible show wpAny _ _ (call (Value.ref 151) _) _ _ _) | (with_reducible show wpAny _ _ (call (Value.ref 156) _) _ _ _)); refine Stop.out ?_))
local macro_rules | `(tactic| walk_at "pyIter ref") => `(tactic| (k_here; (with_reducible show wpAny _ _ (pyIter (Value.ref _)) (fun it s₂ => LoopAtV _ _ _ _ _ _ _ _ _ it s₂) _ _); refine Stop.out ?_))
local macro_rules | `(tactic| walk_at "exec For Name Call cons nil") => `(tactic| (k_here; (rename Fr _ _ _ _ => lF'); (with_unfolding_all refine' For_invVF lF' ?k1 ?k2 ?_; (case k1 => exact rfl); (case k2 => exact rfl); k_whole)))
local macro_rules | `(tactic| walk_at "compareOp NotEq ref ref") => `(tactic| (k_here; refine Stop.out ?_))
local macro_rules | `(tactic| walk_at "binaryOp Add ref ref") => `(tactic| (k_here; refine Stop.out ?_))
local macro_rules | `(tactic| walk_at "exec For Name Tuple cons nil") => `(tactic| (k_here; refine Stop.out ?_))
local macro_rules | `(tactic| walk_at "binaryOp Add str str") => `(tactic| (k_here; refine Stop.out ?_))
def lawMap (m₀ : Str → Option Value) (a b : Option Value) (R : Addr) : Str → Option Value := fun y => if y = Str.ofString "word" then a else if y = Str.ofString "found" then b else if y = Str.ofString "right" then some (.ref R) else m₀ y
theorem lawMap_eq {m₀ m : Str → Option Value} {R : Addr} (hr : m (Str.ofString "right") = some (.ref R)) (h : ∀ z, z ≠ Str.ofString "word" → z ≠ Str.ofString "found" → z ≠ Str.ofString "right" → m z = m₀ z) : m = lawMap m₀ (m (Str.ofString "word")) (m (Str.ofString "found")) R := by
  funext y
  unfold lawMap
  by_cases h1 : y = Str.ofString "word"
  · rw [if_pos h1, h1]
  rw [if_neg h1]
  by_cases h2 : y = Str.ofString "found"
  · rw [if_pos h2, h2]
  rw [if_neg h2]
  by_cases h3 : y = Str.ofString "right"
  · rw [if_pos h3, h3]; exact hr
  rw [if_neg h3]
  exact h y h1 h2 h3
def lawJ (m₀ : Str → Option Value) (rest : Led) (i : Nat) (m : Str → Option Value) (nx : Led) : Prop :=
  ∃ (a b : Option Value) (R : Addr) (rs : List Value) (n : Nat), m = lawMap m₀ a b R ∧ nx = (R, listOf rs.toArray n) :: rest ∧ StrsAre rs ((ws6.take i).filter fun z => throughF z == Str.ofString "ABC")
theorem ws6_take {i : Nat} {z : Str} (h : ws6[i]? = some z) : (ws6.take (i + 1)).filter (fun z => throughF z == Str.ofString "ABC") = (ws6.take i).filter (fun z => throughF z == Str.ofString "ABC") ++ (if (throughF z == Str.ofString "ABC") = true then [z] else []) := by
  rw [List.take_add_one, h, List.filter_append]
  congr 1
  cases hz : throughF z == Str.ofString "ABC" <;> simp [hz]
theorem drop2nd {h₀ h : Heap} {L : Addr} {a b : Addr × Obj} {l : Led} (N : News h₀ L h (a :: b :: l)) : News h₀ L h (a :: l) := fun p hp => N p ((List.mem_cons.mp hp).elim (fun e => e ▸ .head _) fun h => .tail _ (.tail _ h))
theorem law_off {ow : Led} {R Dn b c : Addr} {o1 o1' o2 o3 : Obj} (h1 : ∀ p ∈ ow, @LT.lt Nat _ p.1 Dn) (h2 : OwnOff ow ((([(R, o1), (b, o2), (c, o3)] : Led)).map (·.1))) : OwnOff ow ((([(Dn, o1'), (b, o2), (c, o3)] : Led)).map (·.1)) := fun p hp x hx => by
  rcases List.mem_cons.mp hx with rfl | hx
  · exact Nat.ne_of_lt (h1 p hp)
  · exact h2 p hp x (.tail _ hx)
theorem law_nx {a l r b c : Addr × Obj} {ow : Led} : ∀ p ∈ ([a, b, c] : Led), p ∈ a :: l :: r :: b :: c :: ow := fun p hp => by
  rcases List.mem_cons.mp hp with rfl | hp
  · exact .head _
  rcases List.mem_cons.mp hp with rfl | hp
  · exact .tail _ (.tail _ (.tail _ (.head _)))
  rw [List.mem_singleton.mp hp]
  exact .tail _ (.tail _ (.tail _ (.tail _ (.head _))))
theorem ws6_len {i : Nat} {rs : List Value} (h : StrsAre rs ((ws6.take i).filter fun z => throughF z == Str.ofString "ABC")) : rs.length ≤ 6 := by
  rw [h.length]
  refine Nat.le_trans (List.length_filter_le _ _) ?_
  rw [List.length_take]
  exact Nat.le_trans (Nat.min_le_right _ _) (by decide)
theorem ws6_yes {i : Nat} {z : Str} {u : Tok} {rs : List Value} (hz : ws6[i]? = some z) (h : StrsAre rs ((ws6.take i).filter fun z => throughF z == Str.ofString "ABC")) (hb : (throughF z == Str.ofString "ABC") = true) : StrsAre (rs ++ [.str z u]) ((ws6.take (i + 1)).filter fun z => throughF z == Str.ofString "ABC") := by
  rw [ws6_take hz, if_pos hb]
  exact strs_snoc9 h
theorem ws6_no {i : Nat} {z : Str} {rs : List Value} (hz : ws6[i]? = some z) (h : StrsAre rs ((ws6.take i).filter fun z => throughF z == Str.ofString "ABC")) (hb : (throughF z == Str.ofString "ABC") = false) : StrsAre (rs ++ []) ((ws6.take (i + 1)).filter fun z => throughF z == Str.ofString "ABC") := by
  rw [ws6_take hz, if_neg (by rw [hb]; decide), List.append_nil, List.append_nil]
  exact h
open Classical in
/-- two lists of the same texts are not unlike -/
theorem ne_strs {prog : Program} {w : World} {A : Around} {E : Value → Shared → Prop} {s : Shared} {h₀ : Heap} {L : Addr} {news : Led} {a b : Addr} {n n' : Nat} {xs ys : List Value} {ss : List Str} {Q : Value → Shared → Prop}
    (N : News h₀ L s.heap news) (ma : (a, listOf xs.toArray n) ∈ news) (mb : (b, listOf ys.toArray n') ∈ news) (hx : StrsAre xs ss) (hy : StrsAre ys ss) (ok : ∀ d ∈ ss.map Dat.str, kqdOk 8 d = true) (hu : A.units + 64 < cLine) (h : Q (.bool false) s) :
    wpAny (model prog w) A (compareOp .NotEq (.ref a) (.ref b)) Q E s :=
  kqd_ne N ma rfl rfl (strs_dat [] hx) (fun _ h => nomatch h) mb rfl rfl (strs_dat [] hy) (fun _ h => nomatch h) ok ok hu (by rw [decide_eq_true rfl]; exact h)
def five : List Str := [Str.ofString "ABC", Str.ofString "ACB", Str.ofString "BAC", Str.ofString "CAB", Str.ofString "CBA"]
set_option maxRecDepth 100000 in
theorem five_ok : ∀ d ∈ five.map Dat.str, kqdOk 8 d = true := by decide +kernel
theorem five_right {rs : List Value} (h : StrsAre rs ((ws6.take ws6.length).filter fun z => throughF z == Str.ofString "ABC")) : StrsAre rs five := by
  rw [List.take_length, ws6_right] at h
  exact h
theorem rot3 {h₀ h : Heap} {L : Addr} {a b c x y : Addr × Obj} (N : News h₀ L h [a, b, c, x, y]) : News h₀ L h (x :: y :: [a, b, c]) := fun p hp => N p (by
  rcases List.mem_cons.mp hp with rfl | hp
  · exact .tail _ (.tail _ (.tail _ (.head _)))
  rcases List.mem_cons.mp hp with rfl | hp
  · exact .tail _ (.tail _ (.tail _ (.tail _ (.head _))))
  rcases List.mem_cons.mp hp with rfl | hp
  · exact .head _
  rcases List.mem_cons.mp hp with rfl | hp
  · exact .tail _ (.head _)
  rw [List.mem_singleton.mp hp]
  exact .tail _ (.tail _ (.head _)))
theorem drop2 {h₀ h : Heap} {L : Addr} {a b : Addr × Obj} {l : Led} (N : News h₀ L h (a :: b :: l)) : News h₀ L h l := fun p hp => N p (.tail _ (.tail _ hp))
theorem take5 (l : List Int) : (l.take 5).length ≤ 5 := by rw [List.length_take]; exact Nat.min_le_left _ _
theorem unrot3 {h₀ h : Heap} {L : Addr} {a b c x y : Addr × Obj} (N : News h₀ L h (x :: y :: [a, b, c])) : News h₀ L h [a, b, c, x, y] := fun p hp => N p (by
  rcases List.mem_cons.mp hp with rfl | hp
  · exact .tail _ (.tail _ (.head _))
  rcases List.mem_cons.mp hp with rfl | hp
  · exact .tail _ (.tail _ (.tail _ (.head _)))
  rcases List.mem_cons.mp hp with rfl | hp
  · exact .tail _ (.tail _ (.tail _ (.tail _ (.head _))))
  rcases List.mem_cons.mp hp with rfl | hp
  · exact .head _
  rw [List.mem_singleton.mp hp]
  exact .tail _ (.head _))
theorem thr_txt (l : List Nat) : throughF (txt l) = txt (throughL l) := by
  unfold throughF
  rw [txt_list]
  rfl
theorem slice_last {l : List Nat} {j : Nat} {z : Int} (hz : z = (j : Int) + 1) (h : j + 1 ≤ l.length) : Txt.slice (txt l) (some z) none = txt (l.drop (j + 1)) := by
  rw [hz, slice_from_txt (by rw [txt_len]; exact h), txt_list]
theorem last_same {l : List Nat} {d : Nat} {z : Int} (hz : z = (d : Int)) (hd : 0 < d ∧ d < 5) (hl : (txt l).length = 5) (h : l.drop d = abcde.drop d) : Txt.slice (txt l) (some z) none = Txt.slice (Str.ofString "ABCDE") (some z) none := by
  rw [txt_len] at hl
  show _ = Txt.slice (txt abcde) (some z) none
  obtain ⟨j, rfl⟩ : ∃ j, d = j + 1 := ⟨d - 1, by omega⟩
  rw [slice_last (j := j) (by omega) (by omega), slice_last (j := j) (by omega) (by show j + 1 ≤ 5; omega), h]
/-- what one pass through the pile gives, of a word the law draws -/
theorem pass_parts {l : List Nat} (h : l ∈ words5) {k : Nat} (hk : k < 4) : ∃ a b : List Nat, passW k l = a ∧ passW (k + 1) l = b ∧ throughF (txt a) = txt b ∧ txt (dueL 5 a) = txt b ∧ freeL a = (txt b == Str.ofString "ABCDE") ∧ a.length = 5 ∧ (∀ c ∈ a, c < 128) ∧ b.drop (4 - k) = abcde.drop (4 - k) ∧ (txt b).length = 5 := by
  obtain ⟨h1, h2⟩ := check_good h hk
  obtain ⟨g1, g2, g3, g4⟩ := good_parts h1
  refine ⟨_, _, rfl, rfl, thr_txt _, ?_, ?_, g3, g4, h2, ?_⟩
  · rw [← g1]; exact thr_txt _
  · rw [g2, thr_txt]; rfl
  · rw [txt_len]
    rcases Nat.lt_or_ge (k + 1) 4 with hk' | hk'
    · exact (good_parts (check_good h hk').1).2.2.1
    · have e : k + 1 = 4 := by omega
      rw [e, check_end h]
      rfl
theorem pass_end {l : List Nat} (h : l ∈ words5) {b : List Nat} (hb : passW 4 l = b) : b = abcde := hb.symm.trans (check_end h)
theorem news_nil {h₀ h : Heap} {L : Addr} {m : Str → Option Value} (_ : Fr h₀ L h m) : News h₀ L h [] := fun _ hp => nomatch hp
def pick3 (m9 : Str → Option Value) (a b c : Value) : Str → Option Value := fun y => if y = Str.ofString "word" then some a else if y = Str.ofString "left" then some b else if y = Str.ofString "bag" then some c else m9 y
theorem pick3_eq {m : Str → Option Value} {a b c : Value} (ha : m (Str.ofString "word") = some a) (hb : m (Str.ofString "left") = some b) (hc : m (Str.ofString "bag") = some c) : m = pick3 m a b c := by
  funext y
  unfold pick3
  by_cases h1 : y = Str.ofString "word"
  · rw [if_pos h1, h1, ha]
  rw [if_neg h1]
  by_cases h2 : y = Str.ofString "left"
  · rw [if_pos h2, h2, hb]
  rw [if_neg h2]
  by_cases h3 : y = Str.ofString "bag"
  · rw [if_pos h3, h3, hc]
  rw [if_neg h3]
def pickW (m9 : Str → Option Value) (a : Value) : Str → Option Value := fun y => if y = Str.ofString "word" then some a else m9 y
theorem pickW_eq {m : Str → Option Value} {a : Value} (ha : m (Str.ofString "word") = some a) : m = pickW m a := by
  funext y
  unfold pickW
  by_cases h1 : y = Str.ofString "word"
  · rw [if_pos h1, h1, ha]
  rw [if_neg h1]
/-- what holds between the turns that draw the five signs -/
def drawJ (bg sl : Nat) (vs : List Value) (nsl : Nat) (i : Nat) (m : Str → Option Value) (nx : Led) : Prop :=
  ∃ (m9 : Str → Option Value) (tw tl t0 : Tok) (nb : Nat) (wd lf : List Nat), m = pick3 m9 (.str (txt wd) tw) (.str (txt lf) tl) (.ref bg) ∧ (wd, lf) ∈ drawn i ∧ nx = [(bg, listOf #[.ref sl, .int (i : Int) t0] nb), (sl, listOf vs.toArray nsl)]
/-- what holds between the passes -/
def passJ (wd : List Nat) (i : Nat) (m : Str → Option Value) (nx : Led) : Prop :=
  ∃ (m9 : Str → Option Value) (tw : Tok) (a : List Nat), m = pickW m9 (.str (txt a) tw) ∧ passW i wd = a ∧ nx = []
theorem many_at {i : Nat} {k : Int} (h : ([5, 4, 3, 2, 1] : List Int)[i]? = some k) : i < 5 ∧ k = 5 - (i : Int) := by
  match i, h with
  | 0, h => simp at h; omega
  | 1, h => simp at h; omega
  | 2, h => simp at h; omega
  | 3, h => simp at h; omega
  | 4, h => simp at h; omega
  | n + 5, h => simp at h
theorem pass_at {i : Nat} {k : Int} (h : ([1, 2, 3, 4] : List Int)[i]? = some k) : i < 4 ∧ k = (i : Int) + 1 := by
  match i, h with
  | 0, h => simp at h; omega
  | 1, h => simp at h; omega
  | 2, h => simp at h; omega
  | 3, h => simp at h; omega
  | n + 4, h => simp at h
theorem only1 {h₀ h : Heap} {L : Addr} {a : Addr × Obj} {l : Led} (N : News h₀ L h (a :: l)) : News h₀ L h [a] := fun p hp => N p (by rw [List.mem_singleton.mp hp]; exact .head _)
section
variable {prog : Program} {w : World} {A : Around} {E : Value → Shared → Prop} {s : Shared} {x y : Str} {t u : Tok} {Q : Value → Shared → Prop}
theorem same_str (e : x = y) (h : Q (.bool false) s) : wpAny (model prog w) A (compareOp .NotEq (.str x t) (.str y u)) Q E s := by
  subst e
  refine PyProof.Rows.ne_str ?_
  have e : (x != x) = false := bne_self_eq_false _
  first
    | (rw [e]; exact h)
    | (have e2 : (x.cps.toList != x.cps.toList) = false := bne_self_eq_false _; rw [e2]; exact h)
theorem same_bool {b : Bool} (h : Q (.bool false) s) : wpAny (model prog w) A (compareOp .NotEq (.bool b) (.bool b)) Q E s := by
  refine PyProof.Rows.ne_bool ?_
  have e : (b != b) = false := bne_self_eq_false _
  first
    | (rw [e]; exact h)
    | (cases b <;> exact h)
end
local macro_rules | `(tactic| walk_at "compareOp NotEq str str") => `(tactic| (k_here; refine same_str (by first | with_reducible rfl | assumption) ?_))
local macro_rules | `(tactic| walk_at "compareOp NotEq bool bool") => `(tactic| (k_here; refine same_bool ?_))
set_option maxRecDepth 100000 in
set_option maxHeartbeats 8000000 in
theorem law_holds : PySem.Challenge.rw_xm0028_01.Holds := hd (by
  w_strict (
    k_go0; (all_goals try k_fold)
    have hMark := kstMark
    refine gen_wp (fun Q0 hQ0 => ?_)
    k_steps
    unfold Stop
    refine' words_con _ _ _ _ 3 _ _ _ ?g1 ?g2 ?g3 _ _ _ _ _ _ _ _ _ _ _ _ _ _ _ _ _ ?k1 ?k2 ?k3 ?k4 ?k5 ?kK ?kd ?ku ?kR
    (case g1 => decide); (case g2 => decide); (case g3 => decide)
    (case k1 => k_asm); (case k2 => k_asm); (case k3 => k_asm); (case k4 => k_asm); (case k5 => k_asm); (case kK => first | exact rfl | assumption); (case kd => ktr_room); (case ku => ktr_units)
    intro v9 led9 h9 tk9 r9 F9 N9
    obtain ⟨D9, vs9, n9, e9, e9', hvs9, hD9⟩ := r9
    subst e9 e9'
    have hw : (wordsL 3 (Str.ofString "ABC").cps.toList).map txt = ws6 := by decide
    rw [hw] at hvs9
    (try dsimp only)
    k_steps
    unfold Stop
    refine' iter_strsG (lawJ _ _) rfl hvs9 F9 (drop2nd N9) (fun p hp => Nat.ne_of_lt (hD9 p (.tail _ hp))) ⟨_, _, _, [], 0, lawMap_eq rfl (fun _ _ _ _ => rfl), rfl, .nil⟩ ?_ ?_
    · -- [w6]
      rintro i z u m₁ news₁ h2 tk2 ow hz hof ⟨a1, b1, R, rs, n, rfl, rfl, hrs⟩ F1 N1
      obtain ⟨hz3, hz128, hzt, hzf⟩ := ws6_good z (List.mem_of_getElem? hz)
      have hzl : z.cps.toList.length = z.length := Array.length_toList
      delta lawMap at F1
      rw [List.cons_append, List.cons_append, List.cons_append, List.nil_append] at N1
      k_sweep
      k_steps
      unfold Stop
      refine' through_con _ _ _ _ _ _ _ ?t1 ?t2 _ _ _ _ _ _ _ _ _ _ _ _ _ _ _ _ _ ?u1 ?u2 ?u3 ?u4 ?u5 ?uK ?ud ?uu ?uR
      (case t1 => omega); (case t2 => exact hz128)
      (case u1 => k_asm); (case u2 => k_asm); (case u3 => k_asm); (case u4 => k_asm); (case u5 => k_asm); (case uK => first | exact rfl | assumption); (case ud => ktr_room); (case uu => ktr_units)
      intro v8 led8 h8 tk8 r8 F8 N8
      obtain ⟨⟨t8, e8⟩, e8'⟩ := r8
      subst e8 e8'
      (try dsimp only)
      k_steps
      unfold Stop
      refine' due_con _ _ _ _ _ 5 _ _ ?d1 ?d2 ?d3 _ _ _ _ _ _ _ _ _ _ _ _ _ _ _ _ _ ?f1 ?f2 ?f3 ?f4 ?f5 ?fK ?fd ?fu ?fR
      (case d1 => omega); (case d2 => omega); (case d3 => exact hz128)
      (case f1 => k_asm); (case f2 => k_asm); (case f3 => k_asm); (case f4 => k_asm); (case f5 => k_asm); (case fK => first | exact rfl | assumption); (case fd => ktr_room); (case fu => ktr_units)
      intro v7 led7 h7 tk7 r7 F7 N7
      obtain ⟨⟨t7, e7⟩, e7'⟩ := r7
      subst e7 e7'
      rw [← hzt]
      (try dsimp only)
      k_steps
      unfold Stop
      refine' free_con _ _ _ _ _ _ _ ?e1 ?e2 _ _ _ _ _ _ _ _ _ _ _ _ _ _ _ _ _ ?h1 ?h2 ?h3 ?h4 ?h5 ?hK ?hd ?hu ?hR
      (case e1 => omega); (case e2 => exact hz128)
      (case h1 => k_asm); (case h2 => k_asm); (case h3 => k_asm); (case h4 => k_asm); (case h5 => k_asm); (case hK => first | exact rfl | assumption); (case hd => ktr_room); (case hu => ktr_units)
      intro v6 led6 h6 tk6 r6 F6 N6
      obtain ⟨e6, e6'⟩ := r6
      subst e6 e6'
      rw [hzf]
      (try dsimp only)
      k_steps
      · unfold Stop
        rename (throughF z == _) = true => hb9
        rename Fr _ _ _ _ => F2
        rename News _ _ _ (_ :: _) => N2
        have hlen9 := ws6_len hrs
        refine kmk_add_lit F2 N2 (News.isList N2 (by k_mem)) (News.isList N2 (by k_mem)) (zs := rs ++ [.str z u]) (by simp) ?_ (by rw [PySem.sizeLine_eq]; simp only [List.length_cons, List.length_nil]; omega)
        intro Dn hn' F3 N3 hlt3
        (try dsimp only)
        k_steps
        rename Fr _ _ _ _ => F4
        rename News _ _ _ (_ :: _) => N4
        exact InvEndG.intro F4 N4 ⟨_, _, Dn, _, 0, lawMap_eq rfl (fun z h1 h2 h3 => by simp only [if_neg h1, if_neg h2, if_neg h3]), rfl, ws6_yes hz hrs hb9⟩ (law_off (fun p hp => hlt3 p (.tail _ (.tail _ (.tail _ (.tail _ hp))))) hof) law_nx (fun p hp => .tail _ (.tail _ (.tail _ (.tail _ (.tail _ hp)))))
      · unfold Stop
        rename (throughF z == _) = false => hb9
        rename Fr _ _ _ _ => F2
        rename News _ _ _ (_ :: _) => N2
        have hlen9 := ws6_len hrs
        refine kmk_add_lit F2 N2 (News.isList N2 (by k_mem)) (News.isList N2 (by k_mem)) (zs := rs ++ []) (by simp) ?_ (by rw [PySem.sizeLine_eq]; simp only [List.length_cons, List.length_nil]; omega)
        intro Dn hn' F3 N3 hlt3
        (try dsimp only)
        k_steps
        rename Fr _ _ _ _ => F4
        rename News _ _ _ (_ :: _) => N4
        exact InvEndG.intro F4 N4 ⟨_, _, Dn, _, 0, lawMap_eq rfl (fun z h1 h2 h3 => by simp only [if_neg h1, if_neg h2, if_neg h3]), rfl, ws6_no hz hrs hb9⟩ (law_off (fun p hp => hlt3 p (.tail _ (.tail _ (.tail _ (.tail _ hp))))) hof) law_nx (fun p hp => .tail _ (.tail _ (.tail _ (.tail _ (.tail _ hp)))))
      -- [/w6]
    · rintro m₁ news₁ h2 tk2 ⟨a1, b1, R, rs, n, rfl, rfl, hrs⟩ F1 N1
      replace hrs := five_right hrs
      clear F9 N9 hD9 hvs9
      delta lawMap at F1
      k_sweep
      k_steps
      unfold Stop
      rename Fr _ _ _ _ => F2
      rename News _ _ _ (_ :: _) => N2
      refine ne_strs (ss := five) N2 (by k_mem) (by k_mem) hrs (.cons _ _ (.cons _ _ (.cons _ _ (.cons _ _ (.cons _ _ .nil))))) five_ok (by ktr_units) ?_
      replace N2 := drop2 N2
      (try clear F1); (try clear N1)
      (try dsimp only)
      k_steps
      unfold Stop
      rename Fr _ _ _ _ => F5
      rw [show Str.ofString "ABCDE" = txt abcde from rfl, show Str.ofString "" = txt [] from rfl] at F5
      refine gen_wp (fun Q9 hQ9 => ?_)
      (with_unfolding_all refine' For_invVF F5 ?i1 ?i2 ?_; (case i1 => exact rfl); (case i2 => exact rfl); k_whole)
      k_steps
      unfold Stop
      rename Fr _ _ _ _ => F6
      rename News _ _ _ (_ :: _) => N6
      refine' iter_tupG (ns := [5, 4, 3, 2, 1]) (drawJ _ _ _ _) rfl (.cons _ _ (.cons _ _ (.cons _ _ (.cons _ _ (.cons _ _ .nil))))) F6 (drop2nd N6) ?hD ⟨_, _, _, _, _, [], abcde, pick3_eq rfl rfl rfl, .head _, rfl⟩ ?_ ?_
      case hD => intro p hp; simp only [List.mem_cons, List.not_mem_nil, or_false] at hp; rcases hp with rfl | rfl <;> (refine neN ?_; dsimp only; omega)
      · -- [draw]
        (try clear F6); (try clear N6); (try clear F5)
        rintro i k t m₁ news₁ h2 tk2 ow hk hof ⟨m9, tw, tl, t0, nb, wd, lf, rfl, hd5, rfl⟩ F1 N1
        obtain ⟨hi5, hk5⟩ := many_at hk
        have hq := drawn_len hd5 (by omega)
        dsimp only at hq
        delta pick3 at F1
        rw [List.cons_append, List.cons_append, List.nil_append] at N1
        k_sweep
        k_steps
        unfold Stop
        rename News _ _ _ (_ :: _) => N3
        refine' which_con _ _ _ _ _ _ _ _ _ i _ _ _ _ _ (by assumption) ?za ?zb ?zc ?zd ?ze ?zf _ _ _ _ _ _ _ _ _ _ _ _ _ _ _ _ _ ?ya ?yb ?yc ?yd ?ye ?yK ?yf ?yu ?yR
        (case ya => k_asm); (case yb => k_asm); (case yc => k_asm); (case yd => exact N3); (case ye => k_asm); (case yK => first | exact rfl | assumption); (case yf => ktr_room); (case yu => ktr_units)
        (case za => exact take5 _); (case zb => omega); (case zc => omega); (case zd => omega); (case ze => refine neN ?_; omega); (case zf => exact fun p hp => hof p hp _ (.head _))
        intro v8 led8 h8 tk8 r8 F8 N8
        obtain ⟨r, tr, tb, nb', e8, hrb, e8'⟩ := r8
        subst e8 e8'
        clear N3
        have hr : r < lf.length := by omega
        obtain ⟨c, hc⟩ : ∃ c, lf[r]? = some c := ⟨_, List.getElem?_eq_getElem hr⟩
        have hcx : (txt lf).cps.toList[r]? = some c := by rw [txt_list]; exact hc
        have hxl : (txt lf).length = 5 - i := by rw [txt_len]; omega
        have hd6 := drawn_step hd5 hr hc
        (try dsimp only)
        k_steps
        unfold Stop
        rw [item_txt hcx]
        refine SBL.add (hsz := ?sa) ?_
        case sa =>
          rw [txt_len, PySem.sizeLine_eq]
          show _ + 1 ≤ _
          omega
        intro ta ka _
        rw [txt_snoc]
        (try dsimp only)
        k_steps
        unfold Stop
        rw [slice_to_txt (by omega), slice_from_txt (by omega), txt_list]
        refine SBL.add (hsz := ?sb) ?_
        case sb =>
          rw [txt_len, txt_len, List.length_take, List.length_drop, PySem.sizeLine_eq]
          omega
        intro tc kc _
        rw [txt_app]
        (try dsimp only)
        k_steps
        rename Fr _ _ _ _ => F4
        rename News _ _ _ (_ :: _) => N4
        refine InvEndG.intro F4 N4 ⟨_, _, _, tb, nb', _, _, pick3_eq rfl rfl rfl, hd6, rfl⟩ hof (fun p hp => ?_) (fun p hp => .tail _ (.tail _ (.tail _ hp)))
        rcases List.mem_cons.mp hp with rfl | hp
        · exact .tail _ (.head _)
        · rw [List.mem_singleton.mp hp]; exact .tail _ (.tail _ (.head _))
        -- [/draw]
      · (try clear F6); (try clear N6); (try clear F5)
        rintro m₁ news₁ h2 tk2 ⟨m9, tw, tl, t0, nb, wd5, lf5, rfl, hd5, rfl⟩ F1 N1
        have hck := words_of hd5
        delta pick3 at F1
        rw [hQ9]
        clear hQ9 Q9
        (try dsimp only)
        k_steps
        unfold Stop
        refine gen_wp (fun Q8 hQ8 => ?_)
        rename Fr _ _ _ _ => F5
        (with_unfolding_all refine' For_invVF F5 ?j1 ?j2 ?_; (case j1 => exact rfl); (case j2 => exact rfl); k_whole)
        k_steps
        unfold Stop
        rename Fr _ _ _ _ => F6
        rename News _ _ _ (_ :: _) => N6
        refine' iter_tupG (ns := [1, 2, 3, 4]) (passJ wd5) rfl (.cons _ _ (.cons _ _ (.cons _ _ (.cons _ _ .nil)))) F6 (only1 N6) (fun _ hp => nomatch hp) ⟨_, _, _, pickW_eq rfl, rfl, rfl⟩ ?_ ?_
        · -- [pass]
          (try clear F6); (try clear N6); (try clear F5)
          rintro i k t m₁ news₁ h2 tk2 ow hk hof ⟨m9, tw, a, rfl, ha, rfl⟩ F1 N1
          obtain ⟨hi4, hk4⟩ := pass_at hk
          obtain ⟨a', y, ha', hy, hth, hdu, hfr, hle, hlo, hdr, hyl⟩ := pass_parts hck hi4
          have he : a' = a := ha'.symm.trans ha
          rw [he] at hth hdu hfr hle hlo
          clear he ha' a'
          have hsl : Txt.slice (txt y) (some ((5 : Int) - k)) none = Txt.slice (Str.ofString "ABCDE") (some ((5 : Int) - k)) none := last_same (by omega) (by omega) hyl hdr
          delta pickW at F1
          rw [List.nil_append] at N1
          k_sweep
          k_steps
          unfold Stop
          refine' through_con _ _ _ _ _ _ _ ?wta ?wtb _ _ _ _ _ _ _ _ _ _ _ _ _ _ _ _ _ ?wtc ?wtd ?wte ?wtf ?wtg ?wtK ?wth ?wti ?wtR
          (case wta => rw [txt_len]; omega); (case wtb => rw [txt_list]; exact hlo)
          (case wtc => k_asm); (case wtd => k_asm); (case wte => k_asm); (case wtf => k_asm); (case wtg => k_asm); (case wtK => first | exact rfl | assumption); (case wth => ktr_room); (case wti => ktr_units)
          intro v8 led8 h8 tk8 r8 F8 N8
          obtain ⟨⟨t8, e8⟩, e8'⟩ := r8
          subst e8
          rw [e8'] at N8
          clear e8'
          rw [hth]
          (try dsimp only)
          k_steps
          unfold Stop
          refine' due_con _ _ _ _ _ 5 _ _ ?wda ?wdb ?wdc _ _ _ _ _ _ _ _ _ _ _ _ _ _ _ _ _ ?wdd ?wde ?wdf ?wdg ?wdh ?wdK ?wdi ?wdj ?wdR
          (case wda => rw [txt_len]; omega); (case wdb => omega); (case wdc => rw [txt_list]; exact hlo)
          (case wdd => k_asm); (case wde => k_asm); (case wdf => k_asm); (case wdg => k_asm); (case wdh => k_asm); (case wdK => first | exact rfl | assumption); (case wdi => ktr_room); (case wdj => ktr_units)
          intro v7 led7 h7 tk7 r7 F7 N7
          obtain ⟨⟨t7, e7⟩, e7'⟩ := r7
          subst e7
          rw [e7'] at N7
          clear e7'
          rw [txt_list, hdu]
          (try dsimp only)
          k_steps
          unfold Stop
          refine' free_con _ _ _ _ _ _ _ ?wfa ?wfb _ _ _ _ _ _ _ _ _ _ _ _ _ _ _ _ _ ?wfc ?wfd ?wfe ?wff ?wfg ?wfK ?wfh ?wfi ?wfR
          (case wfa => rw [txt_len]; omega); (case wfb => rw [txt_list]; exact hlo)
          (case wfc => k_asm); (case wfd => k_asm); (case wfe => k_asm); (case wff => k_asm); (case wfg => k_asm); (case wfK => first | exact rfl | assumption); (case wfh => ktr_room); (case wfi => ktr_units)
          intro v6 led6 h6 tk6 r6 F6 N6
          obtain ⟨e6, e6'⟩ := r6
          subst e6
          rw [e6'] at N6
          clear e6'
          rw [txt_list, hfr]
          (try dsimp only)
          k_steps
          rename Fr _ _ _ _ => F4
          rename News _ _ _ _ => N4
          exact InvEndG.intro F4 N4 ⟨_, _, y, pickW_eq rfl, hy, rfl⟩ (fun _ _ _ hb => nomatch hb) (fun _ hp => nomatch hp) (fun _ hp => hp)
          -- [/pass]
        · (try clear F6); (try clear N6); (try clear F5)
          rintro m₁ news₁ h2 tk2 ⟨m9, tw, a, rfl, ha, rfl⟩ F1 N1
          have hlast := pass_end hck ha
          subst hlast
          delta pickW at F1
          rw [hQ8]
          (try dsimp only)
          k_steps
          show Q0 (Flow.ret _) _
          rw [hQ0]
          (try dsimp only)
          k_steps))
end
end Mine
theorem PySem.Challenge.cw_xm0028_01_holds : PySem.Challenge.rw_xm0028_01.Holds :=
  Mine.law_holds
