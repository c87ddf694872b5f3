import PyProof.Rows.All
import Wide.All
import OpenK.AllK
import Wide.FinOn
import PySem.Challenge.RW_pb0480_01
open PySem PySem.W PySem.Calls PySem.Spec PyProof.Rows
set_option Elab.async false
set_option maxRecDepth 100000
namespace Mine
set_option maxHeartbeats 8000000 in
open_top hd for PySem.Challenge.rw_pb0480_01
theorem top_off : True := by
  w_top off
  trivial
local macro_rules | `(tactic| k_all) => `(tactic| assumption)
local macro_rules | `(tactic| k_mem) => `(tactic| assumption)
local macro_rules | `(tactic| k_room) => `(tactic| ktr_room)
local macro_rules | `(tactic| k_units) => `(tactic| ktr_units)
local macro_rules | `(tactic| walk) => `(tactic| repeat' (first | ((fail_if_success (first | (with_reducible show wpAny _ _ (subscriptTail _ _ (Value.ref _) (Value.str _ _)) _ _ _) | (with_reducible show wpAny _ _ (call (Value.ref 312) _) _ _ _) | (with_reducible show EltEnd _ _ _ _ _ _ _ _ _ _) | (with_reducible show LCt.CompSrcT _ _ _ _ _ _ _ _ _ _ _ _ _ _ _) | (with_reducible show LCg.CompSrc _ _ _ _ _ _ _ _ _ _ _ _ _ _) | (with_reducible show LCg.CompEnd _ _ _ _ _ _ _ _ _ _ _ _ _ _) | (with_reducible show LCg.FinE _ _ _ _ _ _ _) | (with_reducible show LCg.FinA _ _ _ _ _ _ _ _) | (with_reducible show TurnEnd _ _ _ _ _ _ _ _ _) | (with_reducible show wpAny _ _ (pyIter _) _ _ _) | (with_reducible show wpAny _ _ (exec (Stmt.For _ _ _ _ _) _) _ _ _) | (with_reducible show wpAny _ _ (eval (Expr.ListComp _ _ _ _) _) _ _ _) | (with_reducible show wpAny _ _ (exec (Stmt.Assign _ (Expr.ListComp _ _ _ _) _) _) _ _ _))); (first | (k_unfold; (try dsimp only)) | (k_end; wrow_close) | walk1 | (dsimp only; walk1) | (leave1; walk_say "STEP leave1"; try dsimp only))) | fail "no step"))
local macro_rules | `(tactic| cell_enter) => `(tactic| (refine' code_defC ?k1 ?k2 ?k3 ?k4 ?k5 ?kA ?kF ?kK ?k6 ?k7 ?k8 ?k9 ?kB ?kD ?_ ?c2 ?c3 ?c4; (case kA => exact rfl); (case kF => exact rfl); (case kK => assumption); (case k1 => k_asm); (case k2 => k_asm); (case k3 => k_asm); (case k4 => k_asm); (case k5 => k_asm); (case k6 => k_is); (case k7 => k_is); (case k8 => ktr_room); (case k9 => exact BindsTo.of_eq rfl); (case kB => exact rfl); (case kD => decide +kernel); (case c2 => exact rfl); (case c3 => exact rfl); (case c4 => exact rfl); k_whole; intro g' L' h' tk' cells' FG' F' N' Y' B' X' T' l1; (try k_lt l1); k_cells Y'; (try simp only [List.cons_append, List.nil_append] at N'); (try dsimp only); (try k_fold)))
section
theorem tup_item {prog : Program} {w : World} {A : Around} {E : Value → Shared → Prop} {s : Shared} {h₀ : Heap} {L D : Addr} {news : List (Addr × Obj)} {vs : List Value} {c : Nat} {value slice : PySem.Expr} {k : Int} {u : Tok} {j : Nat} {v : Value} {Q : Value → Shared → Prop}
    (N : News h₀ L s.heap news) (hm : (D, ({ cls := .type "tuple", data := .seq vs.toArray c } : Obj)) ∈ news) (hlo : -(2 ^ 63) ≤ k) (hhi : k < 2 ^ 63) (hj : seqIndex? k vs.length = some j) (hx : vs[j]? = some v) (h : Q v s)
    (hs : subscripted slice false (.ref D) (.int k u) = operate [.ref D, .int k u] (getItem (.ref D) (.int k u)) := by with_unfolding_all rfl) (hg : ∀ r, letTemporaryGo value (.ref D) r = pure () := by intro _; with_unfolding_all rfl) :
    wpAny (model prog w) A (subscriptTail value slice (.ref D) (.int k u)) Q E s := item_tupleL (News.isTup N hm) hlo hhi hj hx h hs hg
end
local macro_rules | `(tactic| walk_at "subscriptTail Name Constant ref int") => `(tactic| (k_here; (with_reducible show wpAny _ _ (subscriptTail _ _ (Value.ref _) (Value.int _ _)) _ _ _); k_dflt (refine' tup_item ?k1 ?k2 ?k3 ?k4 ?k5 ?k6 ?_ ?k7 ?k8; (case k1 => k_asm); (case k2 => k_mem); (case k3 => decide); (case k4 => decide); (case k5 => rfl); (case k6 => rfl); (case k7 => with_unfolding_all rfl); (case k8 => intro _; with_unfolding_all rfl); k_whole)))
local macro_rules | `(tactic| walk_at "getMethod ref") => `(tactic| (k_here; k_dflt (refine' method_inst ?k1 ?k2 ?k3 ?k4 ?k5 ?k6 ?k7 ?_; (case k1 => k_asm); (case k2 => k_asm); (case k3 => k_inst); (case k4 => k_is); (case k5 => k_is); (case k6 => k_is); (case k7 => k_get); k_whole)))
local macro_rules | `(tactic| walk_at "callWith ref") => `(tactic| (k_here; (with_reducible show wpAny _ _ (callWith _ (Value.ref _) _ (backTo _ (starEach (_ :: _) _)) []) _ _ _); k_dflt (refine' callWith_K ?k1 ?k2 ?_; (case k1 => k_asm); (case k2 => k_is); k_whole)))
local macro_rules | `(tactic| walk_at "callWith ref") => `(tactic| (k_here; (with_reducible show wpAny _ _ (callWith _ (Value.ref _) _ (backTo _ (starEach [] _)) []) _ _ _); k_dflt (refine' callWith_K0 ?k1 ?k2 ?_; (case k1 => first | exact Frag.In.keeps (by with_reducible assumption) (Fr.keep (by with_reducible assumption)) | k_in); (case k2 => k_is); k_whole)))
local macro_rules | `(tactic| walk_at "callWith") => `(tactic| ((with_reducible show wpAny _ _ (callWith _ (Prod.fst _) _ _ _) _ _ _); dsimp only; walk1))
section
abbrev Led := List (Addr × Obj)

/-- what a call of f does, told for every caller: the ledger N becomes N' -/
def Tell (w : World) (f : Addr) (vs : List Value) (k : Nat) (N : Led) (Out : Value → Led → Prop) : Prop :=
  ∀ (loose : List Str) (mean : ExcName → Option Value) (mg mb : Str → Option Value) (dp un : Nat) (gd : Option (List Code)) (cn : Str) (cs : Scope) (a : Addr) (ccd : Value) (cl : List (Str × Addr)) (outer : List Env) (A₀ : Around) (base h₀ : Heap) (L : Addr) (m : Str → Option Value) (s : Shared) (Q E : Value → Shared → Prop),
    Below A₀ base outer h₀ → Fr h₀ L s.heap m → (Mine.hd.heap_39 w.params).In h₀ → News h₀ L s.heap N → Top Mine.hd.view_39 loose mean mg mb h₀ → cs.kind = .function → dp + k < recursionLimit → un + 8 * k < cLine →
    (∀ r N' h' tk', Fr h₀ L h' m → News h₀ L h' N' → Out r N' → Q r { s with heap := h', toks := tk' }) →
    wpAny (model PySem.Challenge.rw_pb0480_01.row.prog w) (ktrTop dp un gd cn cs L a ccd cl outer) (call (.ref f) vs) Q E s

theorem Tell.use {w : World} {f : Addr} {vs : List Value} {k : Nat} {N : Led} {Out : Value → Led → Prop} (C : Tell w f vs k N Out)
    {loose : List Str} {mean : ExcName → Option Value} {mg mb : Str → Option Value} {dp un : Nat} {gd : Option (List Code)} {cn : Str} {cs : Scope} {a : Addr} {ccd : Value} {cl : List (Str × Addr)} {outer : List Env} {A₀ : Around} {base h₀ : Heap} {L : Addr} {m : Str → Option Value} {s : Shared} {Q E : Value → Shared → Prop}
    (B : Below A₀ base outer h₀) (F : Fr h₀ L s.heap m) (X : (Mine.hd.heap_39 w.params).In h₀) (Nw : News h₀ L s.heap N) (T : Top Mine.hd.view_39 loose mean mg mb h₀) (hk : cs.kind = .function) (hd : dp + k < recursionLimit) (hu : un + 8 * k < cLine)
    (ret : ∀ r N' h' tk', Fr h₀ L h' m → News h₀ L h' N' → Out r N' → Q r { s with heap := h', toks := tk' }) :
    wpAny (model PySem.Challenge.rw_pb0480_01.row.prog w) (ktrTop dp un gd cn cs L a ccd cl outer) (call (.ref f) vs) Q E s :=
  C _ _ _ _ _ _ _ _ _ _ _ _ _ _ _ _ _ _ _ _ _ B F X Nw T hk hd hu ret

theorem updMem {d : Addr} {o o' : Obj} {l l' : Led} (U : Upd d o o' l l') : ∀ p ∈ l', p = (d, o') ∨ (p ∈ l ∧ p.1 ≠ d) := by
  induction U with
  | head h => intro p hp; rcases List.mem_cons.mp hp with rfl | hp; exact .inl rfl; exact .inr ⟨.tail _ hp, h p hp⟩
  | tail h r ih =>
    intro p hp
    rcases List.mem_cons.mp hp with rfl | hp
    · exact .inr ⟨.head _, h⟩
    · rcases ih p hp with rfl | ⟨a, b⟩
      · exact .inl rfl
      · exact .inr ⟨.tail _ a, b⟩
theorem updHas {d : Addr} {o o' : Obj} {l l' : Led} (U : Upd d o o' l l') : (d, o) ∈ l := by
  induction U with
  | head h => exact .head _
  | tail h r ih => exact .tail _ ih
theorem updApp {d : Addr} {o o' : Obj} {tl l l' : Led} (h : ∀ p ∈ tl, p.1 ≠ d) (U : Upd d o o' l l') : Upd d o o' (tl ++ l) (tl ++ l') := by
  induction tl with
  | nil => exact U
  | cons q r ih => exact .tail (h q (.head _)) (ih fun p hp => h p (.tail _ hp))

/-- the rest of a ledger, without one address -/
def rest (t : Addr) (N : Led) : Led := N.filter fun p => !(Nat.beq p.1 t)
theorem rest_ne {t : Addr} {N : Led} : ∀ p ∈ rest t N, p.1 ≠ t := fun p hp e => by
  have := (List.mem_filter.mp hp).2
  rw [e] at this
  simp at this
theorem mem_rest {t : Addr} {N : Led} {p : Addr × Obj} (h : p ∈ N) (hn : p.1 ≠ t) : p ∈ rest t N :=
  List.mem_filter.mpr ⟨h, by
    cases e : Nat.beq p.1 t with
    | false => rfl
    | true => exact absurd (Nat.eq_of_beq_eq_true e) hn⟩
theorem newsSub {h₀ h : Heap} {L : Addr} {N N' : Led} (x : News h₀ L h N) (s : ∀ p ∈ N', p ∈ N) : News h₀ L h N' := fun p hp => x p (s p hp)
theorem newsFront {h₀ h : Heap} {L t : Addr} {o : Obj} {N : Led} (x : News h₀ L h N) (hm : (t, o) ∈ N) : News h₀ L h ((t, o) :: rest t N) := fun p hp => by
  rcases List.mem_cons.mp hp with rfl | hp
  · exact x _ hm
  · exact x p (List.mem_filter.mp hp).1
/-- a ledger is a function of the address -/
theorem newsFn {h₀ h : Heap} {L : Addr} {N : Led} (x : News h₀ L h N) {a : Addr} {o o' : Obj} (h1 : (a, o) ∈ N) (h2 : (a, o') ∈ N) : o = o' :=
  Option.some.inj ((x _ h1).1.symm.trans (x _ h2).1)

/-- the new objects tl lie apart from the ledger N -/
def Above (tl N : Led) : Prop := ∀ q ∈ N, ∀ p ∈ tl, p.1 ≠ q.1
theorem above_nil {N : Led} : Above [] N := fun _ _ _ h => nomatch h
theorem above_ofNe {a : Addr} {o : Obj} {N : Led} (h : ∀ p ∈ N, p.1 ≠ a) : Above [(a, o)] N := fun q hq p hp => by
  rw [List.mem_singleton.mp hp]; exact Ne.symm (h q hq)
theorem above_one {a : Addr} {o : Obj} {N : Led} (h : AllLt a N) : Above [(a, o)] N := above_ofNe fun p hp => Nat.ne_of_lt (ktn_ltOf h p hp)
theorem above_two {a b : Addr} {o o' : Obj} {N : Led} (h : AllLt b N) (l : @LT.lt Nat _ b a) : Above [(a, o), (b, o')] N := fun q hq p hp => by
  rcases List.mem_cons.mp hp with rfl | hp
  · exact Ne.symm (Nat.ne_of_lt (Nat.lt_trans (ktn_ltOf h q hq) l))
  · rw [List.mem_singleton.mp hp]; exact Ne.symm (Nat.ne_of_lt (ktn_ltOf h q hq))
theorem above_trans {tl tl' N : Led} (h : Above tl N) (h' : Above tl' (tl ++ N)) : Above (tl' ++ tl) N := fun q hq p hp => by
  rcases List.mem_append.mp hp with hp | hp
  · exact h' q (List.mem_append.mpr (.inr hq)) p hp
  · exact h q hq p hp
theorem above_sub {tl N N' : Led} (h : Above tl N) (s : ∀ p ∈ N', p ∈ N) : Above tl N' := fun q hq p hp => h q (s q hq) p hp
theorem above_ne {tl N : Led} (h : Above tl N) {d : Addr} {o : Obj} (hm : (d, o) ∈ N) : ∀ p ∈ tl, p.1 ≠ d := fun p hp => h _ hm p hp
theorem inR {tl N : Led} {p : Addr × Obj} (h : p ∈ N) : p ∈ tl ++ N := List.mem_append.mpr (.inr h)
theorem inL {tl N : Led} {p : Addr × Obj} (h : p ∈ tl) : p ∈ tl ++ N := List.mem_append.mpr (.inl h)
theorem app_cons {tl N : Led} {q : Addr × Obj} : tl ++ q :: N = (tl ++ [q]) ++ N := by simp
theorem above_lt {a : Addr} {o : Obj} {N : Led} (h : ∀ p ∈ N, @LT.lt Nat _ p.1 a) : Above [(a, o)] N := above_one (allLt_of h)
theorem len_mem {prog : Program} {w : World} {A : Around} {E : Value → Shared → Prop} {s : Shared} {h₀ : Heap} {L D : Addr} {news : Led} {vs : List Value} {c : Nat} {Q : Value → Shared → Prop}
    (N : News h₀ L s.heap news) (hm : (D, listOf vs.toArray c) ∈ news) (hz : vs.length < 1000000) (h : Q (.int (vs.length : Nat) (s.toks + 1)) { s with toks := s.toks + 1 + 1 }) :
    wpAny (model prog w) A (call (.builtin "len") [.ref D]) Q E s :=
  KM.len_K N hm (by simp) (by omega) h
theorem pick_from (l : List Value) {x : Int} (h : 0 ≤ x) : kms_pick l (some x) none = l.drop x.toNat := by
  unfold kms_pick kms_lo kms_hi
  simp only [Int.not_lt.mpr h, if_false]
  rw [kmk_drop_min]
  exact List.take_of_length_le (by rw [List.length_drop]; omega)
theorem pick_upto (l : List Value) {x : Int} (h : 0 ≤ x) : kms_pick l none (some x) = l.take x.toNat := by
  unfold kms_pick kms_lo kms_hi
  simp only [Int.not_lt.mpr h, if_false, List.drop_zero, Nat.sub_zero]
  exact kmk_take_min l _
theorem size_line {vs : List Value} (h : vs.length < 1000000) : vs.toArray.size ≤ sizeLine := by
  rw [List.size_toArray, sizeLine_eq]; omega
theorem item_mem {prog : Program} {w : World} {A : Around} {E : Value → Shared → Prop} {s : Shared} {h₀ : Heap} {L D : Addr} {news : Led} {vs : List Value} {c : Nat} {value slice : PySem.Expr} {k : Int} {u : Tok} {v : Value} {Q : Value → Shared → Prop}
    (N : News h₀ L s.heap news) (hm : (D, listOf vs.toArray c) ∈ news) (h0 : 0 ≤ k) (hhi : k < 2 ^ 63) (hx : vs[k.toNat]? = some v) (h : Q v s)
    (hs : subscripted slice false (.ref D) (.int k u) = operate [.ref D, .int k u] (getItem (.ref D) (.int k u)) := by with_unfolding_all rfl) :
    wpAny (model prog w) A (subscriptTail value slice (.ref D) (.int k u)) Q E s :=
  have hl : s.heap.IsList D vs.toArray := News.isList N hm
  tail_any hl.typeIs slot_list_getitem.lookup (wpAny_getItem_list hl h0 hhi (by simpa using hx) h) hs

/-- item by item, over the ledger -/
inductive AllR {δ : Type} (R : Led → Value → δ → Prop) (N : Led) : List Value → List δ → Prop
  | nil : AllR R N [] []
  | cons {v : Value} {vs : List Value} {n : δ} {ns : List δ} : R N v n → AllR R N vs ns → AllR R N (v :: vs) (n :: ns)
theorem AllR.monoR {δ : Type} {R : Led → Value → δ → Prop} {N N' : Led} (k : ∀ v d, R N v d → R N' v d) : ∀ {vs : List Value} {ns : List δ}, AllR R N vs ns → AllR R N' vs ns
  | _, _, .nil => .nil
  | _, _, .cons h r => .cons (k _ _ h) (r.monoR k)
theorem AllR.len {δ : Type} {R : Led → Value → δ → Prop} {N : Led} : ∀ {vs : List Value} {ns : List δ}, AllR R N vs ns → vs.length = ns.length
  | _, _, .nil => rfl
  | _, _, .cons _ r => congrArg (· + 1) r.len
theorem AllR.app {δ : Type} {R : Led → Value → δ → Prop} {N : Led} {ws : List Value} {ms : List δ} (k : AllR R N ws ms) : ∀ {vs : List Value} {ns : List δ}, AllR R N vs ns → AllR R N (vs ++ ws) (ns ++ ms)
  | _, _, .nil => k
  | _, _, .cons h r => .cons h (AllR.app k r)
theorem AllR.snoc {δ : Type} {R : Led → Value → δ → Prop} {N : Led} {v : Value} {d : δ} {vs : List Value} {ns : List δ} (r : AllR R N vs ns) (h : R N v d) : AllR R N (vs ++ [v]) (ns ++ [d]) := AllR.app (.cons h .nil) r
theorem AllR.here {δ : Type} {R : Led → Value → δ → Prop} {N : Led} : ∀ {pre post : List Value} {v : Value} {ns : List δ}, AllR R N (pre ++ v :: post) ns → ∃ n, R N v n ∧ ns[pre.length]? = some n
  | [], _, _, _, .cons h _ => ⟨_, h, rfl⟩
  | _ :: _, _, _, _, .cons _ r => r.here
theorem add_mem {prog : Program} {w : World} {A : Around} {E : Value → Shared → Prop} {s : Shared} {h₀ : Heap} {L a b : Addr} {m : Str → Option Value} {news : Led} {vs ws : List Value} {c d : Nat} {Q : Value → Shared → Prop} (F : Fr h₀ L s.heap m) (N : News h₀ L s.heap news)
    (ha : (a, listOf vs.toArray c) ∈ news) (hb : (b, listOf ws.toArray d) ∈ news) (hz : vs.length + ws.length < 1000000)
    (h : ∀ D h', Fr h₀ L h' m → News h₀ L h' ((D, listOf (vs ++ ws).toArray 0) :: news) → (∀ p ∈ news, p.1 < D) → Q (.ref D) { s with heap := h' }) : wpAny (model prog w) A (binaryOp .Add (.ref a) (.ref b)) Q E s :=
  kmk_add_lit F N (News.isList N ha) (News.isList N hb) rfl h (by simp only [sizeLine_eq]; omega)
/-- a ledger that has grown: what is new, apart from what stood -/
theorem grown {h₀ h : Heap} {L : Addr} {M N : Led} (x : News h₀ L h M) (s : ∀ p ∈ N, p ∈ M) : ∃ tl, Above tl N ∧ (∀ p ∈ M, p ∈ tl ++ N) ∧ News h₀ L h (tl ++ N) := by
  refine ⟨M.filter fun p => N.all fun q => !(Nat.beq p.1 q.1), fun q hq p hp e => ?_, fun p hp => ?_, fun p hp => ?_⟩
  · have h1 := List.all_eq_true.mp (List.mem_filter.mp hp).2 q hq
    rw [e] at h1
    simp at h1
  · by_cases h1 : ∃ q ∈ N, q.1 = p.1
    · obtain ⟨q, hq, e⟩ := h1
      obtain ⟨a, o⟩ := p
      obtain ⟨b, o'⟩ := q
      cases e
      cases newsFn x hp (s _ hq)
      exact inR hq
    · refine inL (List.mem_filter.mpr ⟨hp, List.all_eq_true.mpr fun q hq => ?_⟩)
      cases e : Nat.beq p.1 q.1 with
      | false => rfl
      | true => exact absurd ⟨q, hq, (Nat.eq_of_beq_eq_true e).symm⟩ h1
  · rcases List.mem_append.mp hp with hp | hp
    · exact x p (List.mem_filter.mp hp).1
    · exact x p (s p hp)
theorem grown2 {h₀ h : Heap} {L : Addr} {M N : Led} (x : News h₀ L h M) (s : ∀ p ∈ N, p ∈ M) : ∃ tl, Above tl N ∧ (∀ p ∈ M, (∀ q ∈ N, p.1 ≠ q.1) → p ∈ tl) ∧ News h₀ L h (tl ++ N) := by
  refine ⟨M.filter fun p => N.all fun q => !(Nat.beq p.1 q.1), fun q hq p hp e => ?_, fun p hp hn => ?_, fun p hp => ?_⟩
  · have h1 := List.all_eq_true.mp (List.mem_filter.mp hp).2 q hq
    rw [e] at h1
    simp at h1
  · refine List.mem_filter.mpr ⟨hp, List.all_eq_true.mpr fun q hq => ?_⟩
    cases e : Nat.beq p.1 q.1 with
    | false => rfl
    | true => exact absurd (Nat.eq_of_beq_eq_true e) (hn q hq)
  · rcases List.mem_append.mp hp with hp | hp
    · exact x p (List.mem_filter.mp hp).1
    · exact x p (s p hp)
end
local macro_rules | `(tactic| walk_at "call builtin:len") => `(tactic| (k_here; (with_reducible show wpAny _ _ (call (Value.builtin "len") [Value.ref _]) _ _ _); k_dflt (refine' len_mem ?k1 ?k2 ?k3 ?_; (case k1 => k_asm); (case k2 => k_mem); (case k3 => ((try simp only [List.length_cons, List.length_append, List.length_nil]); omega)))))
local macro_rules | `(tactic| walk_at "subscriptTail") => `(tactic| (k_here; (with_reducible show wpAny _ _ (subscriptTail _ _ (Value.ref _) (Value.int _ _)) _ _ _); k_dflt (refine' item_mem ?k1 ?k2 ?k3 ?k4 ?k5 ?_ ?k7; (case k1 => k_asm); (case k2 => k_mem); (case k3 => decide); (case k4 => decide); (case k5 => rfl); (case k7 => with_unfolding_all rfl); k_whole)))
local macro_rules | `(tactic| walk_at "subscriptTail Name Slice ref ref") => `(tactic| (k_here; (with_reducible show wpAny _ _ (subscriptTail _ (PySem.Expr.Slice _ _ none _) (Value.ref _) (Value.ref _)) _ _ _); k_dflt (refine' kms_slice_lit ?F ?N ?l ?p ?q ?e ?_ ?s ?t ?z; (case F => k_asm); (case N => k_asm); (case l => exact News.isList (by k_asm) (by k_mem)); (case p => kmk_part); (case q => kmk_part); (case e => first | exact pick_from _ (by first | decide | omega) | exact pick_upto _ (by first | decide | omega)); (case s => with_unfolding_all rfl); (case t => kmk_pure); (case z => exact size_line (by first | omega | (simp only [List.length_cons, List.length_append, List.length_nil]; omega)))); intro D' h' F' N' l1; (try k_lt l1); (try k_sweep)))
local macro_rules | `(tactic| k_mem) => `(tactic| first | (refine inR ?_; k_mem) | (refine inL ?_; k_mem))
local macro_rules | `(tactic| k_mem) => `(tactic| assumption)
local macro_rules | `(tactic| walk_at "binaryOp Add ref ref") => `(tactic| (k_here; (with_reducible show wpAny _ _ (binaryOp _ (Value.ref _) (Value.ref _)) _ _ _); k_dflt (refine' add_mem ?F ?N ?a ?b ?z ?_; (case F => k_asm); (case N => k_asm); (case a => k_mem); (case b => k_mem); (case z => omega)); intro D' h' F' N' l1; (try k_lt l1); (try k_sweep)))
section
section
variable {prog : Program} {w : World} {A : Around} {E : Value → Shared → Prop} {s : Shared} {h₀ : Heap} {env : Env} {target : PySem.Expr} {body : List Stmt} {Q : Flow → Shared → Prop}
/-- how a turn of a for ends: J holds at what is left -/
def TurnEnd (h₀ : Heap) (L : Addr) (s : Shared) (I : Addr) (it : Obj) (J : (Str → Option Value) → Led → Prop) (Q : Flow → Shared → Prop) (f : Flow) (s₃ : Shared) : Prop :=
  match f with
  | .ret v => Q (.ret v) s₃
  | .brk => Q .next s₃
  | _ => ∃ h' tk' m' n', s₃ = { s with heap := h', toks := tk' } ∧ Fr h₀ L h' m' ∧ News h₀ L h' ((I, it) :: n') ∧ (∀ p ∈ n', p.1 ≠ I) ∧ J m' n'
theorem turn_next {L : Addr} {I : Addr} {it : Obj} {J : (Str → Option Value) → Led → Prop} {h' : Heap} {tk : Nat} {m' : Str → Option Value} {n tl9 : Led} (F : Fr h₀ L h' m') (N : News h₀ L h' (tl9 ++ (I, it) :: n)) (hA : Above tl9 ((I, it) :: n)) (hoff : ∀ p ∈ n, p.1 ≠ I)
    (hJ : J m' (tl9 ++ n)) : TurnEnd h₀ L s I it J Q .next { s with heap := h', toks := tk } := by
  refine ⟨h', tk, m', tl9 ++ n, rfl, F, newsSub N fun p hp => ?_, fun p hp => ?_, hJ⟩
  · rcases List.mem_cons.mp hp with rfl | hp
    · exact inR (.head _)
    · rcases List.mem_append.mp hp with hp | hp
      · exact inL hp
      · exact inR (.tail _ hp)
  · rcases List.mem_append.mp hp with hp | hp
    · exact above_ne hA (.head _) p hp
    · exact hoff p hp
theorem for_rest {ax : Addr} {lo : Obj} {vs : List Value} {I : Addr} (nm : String) (J : List Value → (Str → Option Value) → Led → Prop)
    (hk : ∀ pre m n, J pre m n → (ax, lo) ∈ n)
    (turn : ∀ pre v post m n it h tk, vs = pre ++ v :: post → J pre m n → it.cls = .type nm → Fr h₀ env.locals h m → News h₀ env.locals h ((I, it) :: n) → (∀ p ∈ n, p.1 ≠ I) →
      wpAny (model prog w) A (assign target env v) (fun _ s₂ => wpAny (model prog w) A (execs body env) (TurnEnd h₀ env.locals { s with heap := h, toks := tk } I it (J (pre ++ [v])) Q) E s₂) E { s with heap := h, toks := tk })
    (done : ∀ m n h tk, J vs m n → Fr h₀ env.locals h m → News h₀ env.locals h n → Q .next { s with heap := h, toks := tk }) :
    ∀ (post pre : List Value) (m : Str → Option Value) (n : Led), vs = pre ++ post → J pre m n → (∀ p ∈ n, p.1 ≠ I) →
      ItemsRest prog w A E h₀ env target body Q s [(I, nm)] [(ax, lo)] (post.map .val) m n := by
  intro post
  induction post with
  | nil =>
    intro pre m n e hJ _
    rw [List.append_nil] at e; subst e
    exact ItemsRest.zero fun h tk F N => done m n h tk hJ F N
  | cons v r ih =>
    intro pre m n e hJ hI
    refine ItemsRest.val fun h tk F => AllObj.cons fun it hit => AllObj.nil fun N => ?_
    refine wpAny_mono (turn pre v r m n it h tk e hJ hit F N hI) (fun _ s₂ h₂ => wpAny_mono h₂ (fun f s₃ h₃ => ?_) fun _ _ e => e) fun _ _ e => e
    have nx : (∃ h' tk' m' n', s₃ = { ({ s with heap := h, toks := tk } : Shared) with heap := h', toks := tk' } ∧ Fr h₀ env.locals h' m' ∧ News h₀ env.locals h' ((I, it) :: n') ∧ (∀ p ∈ n', p.1 ≠ I) ∧ J (pre ++ [v]) m' n') →
        UnrEndW h₀ env.locals { s with heap := h, toks := tk } [(I, it)] (fun m' n' => SubL [(ax, lo)] n' ∧ ItemsRest prog w A E h₀ env target body Q s [(I, nm)] [(ax, lo)] (r.map .val) m' n') s₃ := by
      rintro ⟨h', tk', m', n', rfl, F', N', hI', hJ'⟩
      refine ⟨h', tk', m', n', rfl, F', N', fun p hp q hq => ?_, ?_, ih (pre ++ [v]) m' n' (by rw [e]; simp) hJ' hI'⟩
      · rw [List.mem_singleton.mp hq]; exact hI' p hp
      · exact ⟨hk _ _ _ hJ', trivial⟩
    cases f with
    | ret v => exact h₃
    | brk => exact h₃
    | next => exact nx h₃
    | cont => exact nx h₃
theorem for_list {ax : Addr} {c : Nat} {vs : List Value} {m₀ : Str → Option Value} {news : Led} (J : List Value → (Str → Option Value) → Led → Prop)
    (hh : A.handled = none) (F : Fr h₀ env.locals s.heap m₀) (N : News h₀ env.locals s.heap news) (hm : (ax, listOf vs.toArray c) ∈ news) (h0 : J [] m₀ news)
    (hk : ∀ pre m n, J pre m n → (ax, listOf vs.toArray c) ∈ n)
    (turn : ∀ I pre v post m n it h tk, (∀ p ∈ news, @LT.lt Nat _ p.1 I) → vs = pre ++ v :: post → J pre m n → it.cls = .type "list_iterator" → Fr h₀ env.locals h m → News h₀ env.locals h ((I, it) :: n) → (∀ p ∈ n, p.1 ≠ I) →
      wpAny (model prog w) A (assign target env v) (fun _ s₂ => wpAny (model prog w) A (execs body env) (TurnEnd h₀ env.locals { s with heap := h, toks := tk } I it (J (pre ++ [v])) Q) E s₂) E { s with heap := h, toks := tk })
    (done : ∀ m n h tk, J vs m n → Fr h₀ env.locals h m → News h₀ env.locals h n → Q .next { s with heap := h, toks := tk }) :
    wpAny (model prog w) A (pyIter (.ref ax)) (fun it s₂ => TurnsAt prog w A h₀ env target body Q E it s₂) E s :=
  iter_listTurns hh F N hm rfl rfl fun I hI => for_rest "list_iterator" J hk (fun pre v post m n it h tk => turn I pre v post m n it h tk hI) done vs [] m₀ news rfl h0 fun p hp => Nat.ne_of_lt (hI p hp)
end
end
section

theorem off1_mem {D : Addr} : ∀ {l : Led}, LCg.Off1 D l → ∀ p ∈ l, p.1 ≠ D
  | [], _, _, h => nomatch h
  | _ :: _, x, p, h => by
    rcases List.mem_cons.mp h with rfl | h
    · exact x.1
    · exact off1_mem x.2 p h
section
variable {prog : Program} {w : World} {A : Around} {E : Value → Shared → Prop} {s : Shared} {h₀ : Heap} {L : Addr} {m : Str → Option Value} {env : Env} {elt : PySem.Expr} {x : Str} {scope : Scope} {cl : List (Str × Addr)}
abbrev Three (I : Addr) (oI : Obj) (C : Addr) (oC : Obj) (D : Addr) (oD : Obj) (n : Led) : Led := (I, oI) :: (C, oC) :: (D, oD) :: n
theorem compEnd_mono {I C D : Addr} {oI oC oD : Obj} {S : Led → Prop} {r r' : Value → Led → Prop} {y : Value} {s₂ : Shared} (h : LCg.CompEnd h₀ L m s I oI C oC D oD S r y s₂) (k : ∀ n, S n → r y n → r' y n) : LCg.CompEnd h₀ L m s I oI C oC D oD S r' y s₂ := by
  obtain ⟨h', tk, n, e, F, N, o, hS, hr⟩ := h
  exact ⟨h', tk, n, e, F, N, o, hS, k n hS hr⟩
theorem compEnd_of {I C D : Addr} {oI oC oD : Obj} {S : Led → Prop} {r : Value → Led → Prop} {y : Value} {h' : Heap} {tk : Nat} {n tl : Led} (F : Fr h₀ L h' m) (N : News h₀ L h' (tl ++ Three I oI C oC D oD n)) (hA : Above tl (Three I oI C oC D oD n)) (off : LCg.Off3 I C D n) (hS : S (tl ++ n)) (hr : r y (tl ++ n)) :
    LCg.CompEnd h₀ L m s I oI C oC D oD S r y { s with heap := h', toks := tk } := by
  refine ⟨h', tk, tl ++ n, rfl, F, newsSub N fun p hp => ?_, LCg.Off3.of fun p hp => ?_, hS, hr⟩
  · rcases List.mem_cons.mp hp with rfl | hp
    · exact inR (.head _)
    · rcases List.mem_cons.mp hp with rfl | hp
      · exact inR (.tail _ (.head _))
      · rcases List.mem_cons.mp hp with rfl | hp
        · exact inR (.tail _ (.tail _ (.head _)))
        · rcases List.mem_append.mp hp with hp | hp
          · exact inL hp
          · exact inR (.tail _ (.tail _ (.tail _ hp)))
  · rcases List.mem_append.mp hp with hp | hp
    · exact ⟨above_ne hA (.head _) p hp, above_ne hA (.tail _ (.head _)) p hp, above_ne hA (.tail _ (.tail _ (.head _))) p hp⟩
    · exact off.mem p hp

theorem comp_rest {S : Led → Prop} {P : Nat → Value → Prop} {Fin : List Value → Led → Prop} {α : Type} (as : List α) (J : List α → List Value → Led → Prop)
    (turn : ∀ pre a post v ys n I oI C oC D m₂ h tk (E' : Value → Shared → Prop), as = pre ++ a :: post → P pre.length v → J pre ys n → LCg.NsObj oC m₂ → m₂ x = some v → Fr h₀ L h m → News h₀ L h (Three I oI C oC D (LCg.lst ys) n) → LCg.Off3 I C D n → ((@Ne Nat I C) ∧ (@Ne Nat I D) ∧ (@Ne Nat C D)) →
      wpAny (model prog w) A (eval elt (compEnvC scope cl C env)) (LCg.CompEnd h₀ L m { s with heap := h, toks := tk } I oI C oC D (LCg.lst ys) S (fun y n' => J (pre ++ [a]) (ys ++ [y]) n')) E' { s with heap := h, toks := tk })
    (fin : ∀ ys n, J as ys n → Fin ys n) : ∀ (post pre : List α) (ys : List Value) (n : Led), as = pre ++ post → J pre ys n → LCg.CompRest prog w A h₀ L m env elt x scope cl s S P Fin post.length pre.length ys n := by
  intro post
  induction post with
  | nil =>
    intro pre ys n e hJ
    rw [List.append_nil] at e; subst e
    exact LCg.CompRest.zero (fin ys n hJ)
  | cons a r ih =>
    intro pre ys n e hJ
    refine LCg.CompRest.succ fun v I oI C oC D m₂ h tk E' hP hC hx F N off ne => ?_
    refine wpAny_mono (turn pre a r v ys n I oI C oC D m₂ h tk E' e hP hJ hC hx F N off ne) (fun y s₂ h₂ => compEnd_mono h₂ fun n' _ hJ' => ?_) fun _ _ e => e
    have := ih (pre ++ [a]) (ys ++ [y]) n' (by rw [e]; simp) hJ'
    rw [List.length_append, List.length_singleton] at this
    exact this
/-- a comprehension over a list of the ledger, by what holds after each item -/
theorem comp_list {Fin : Shared → List Value → Led → Prop} {ax : Addr} {c : Nat} {vs : List Value} {news : Led} (J : List Value → List Value → Led → Prop)
    (hh : A.handled = none) (F : Fr h₀ L s.heap m) (N : News h₀ L s.heap news) (hm : (ax, listOf vs.toArray c) ∈ news) (hz : vs.length < 1000000) (h0 : J [] [] news)
    (hk : ∀ pre ys n, J pre ys n → (ax, listOf vs.toArray c) ∈ n)
    (turn : ∀ (g : Heap) pre v post ys n I oI C oC D m₂ h tk (E' : Value → Shared → Prop), vs = pre ++ v :: post → J pre ys n → LCg.NsObj oC m₂ → m₂ x = some v → Fr h₀ L h m → News h₀ L h (Three I oI C oC D (LCg.lst ys) n) → LCg.Off3 I C D n → ((@Ne Nat I C) ∧ (@Ne Nat I D) ∧ (@Ne Nat C D)) →
      wpAny (model prog w) A (eval elt (compEnvC scope cl C env)) (LCg.CompEnd h₀ L m (⟨h, s.gens, s.drawn, tk, s.os⟩ : Shared) I oI C oC D (LCg.lst ys) (LCg.SrcAt h₀ ax vs.toArray) (fun y n' => J (pre ++ [v]) (ys ++ [y]) n')) E' (⟨h, s.gens, s.drawn, tk, s.os⟩ : Shared))
    (fin : ∀ (g : Heap) ys n, J vs ys n → Fin { s with heap := g } ys n) : LCg.CompSrc prog w A h₀ L m env elt x scope cl Fin (.ref ax) s := by
  refine LCg.CompSrc.ledger hh F N hm (size_line hz) fun g => ?_
  have := comp_rest (prog := prog) (w := w) (A := A) (s := { s with heap := g }) (h₀ := h₀) (L := L) (m := m) (env := env) (elt := elt) (x := x) (scope := scope) (cl := cl) (S := LCg.SrcAt h₀ ax vs.toArray) (P := fun i v => vs.toArray[i]? = some v) (Fin := Fin { s with heap := g }) vs J
    (fun pre a post v ys n I oI C oC D m₂ h tk E' e hP hJ hC hx F N off ne => by
      have hv : v = a := by
        have hP' : vs[pre.length]? = some v := by simpa using hP
        rw [e, List.getElem?_append_right (Nat.le_refl _), Nat.sub_self] at hP'
        exact (Option.some.inj hP').symm
      subst hv
      exact turn g pre v post ys n I oI C oC D m₂ h tk E' e hJ hC hx F N off ne) (fin g) vs [] [] news rfl h0
  rw [List.size_toArray]
  exact this
/-- the same over a range -/
theorem comp_range {Fin : Shared → List Value → Led → Prop} {r : Addr} {a b : Int} {t u v : Tok} {n : Nat} {news : Led} (J : List Unit → List Value → Led → Prop)
    (hh : A.handled = none) (F : Fr h₀ L s.heap m) (N : News h₀ L s.heap news) (hr : IsRange s.heap r a b 1 t u v) (hsm : Builtin.Range.small a b 1 = true) (hn : Builtin.Range.rangeSize a b 1 = ((n : Nat) : Int)) (hz : n < 1000000) (h0 : J [] [] news)
    (turn : ∀ (g : Heap) pre post v ys nn I oI C oC D m₂ h tk (E' : Value → Shared → Prop), List.replicate n () = pre ++ () :: post → (∃ t, v = .int (a + (pre.length : Int)) t) → J pre ys nn → LCg.NsObj oC m₂ → m₂ x = some v → Fr h₀ L h m → News h₀ L h (Three I oI C oC D (LCg.lst ys) nn) → LCg.Off3 I C D nn → ((@Ne Nat I C) ∧ (@Ne Nat I D) ∧ (@Ne Nat C D)) →
      wpAny (model prog w) A (eval elt (compEnvC scope cl C env)) (LCg.CompEnd h₀ L m (⟨h, s.gens, s.drawn, tk, s.os⟩ : Shared) I oI C oC D (LCg.lst ys) (fun _ => True) (fun y n' => J (pre ++ [()]) (ys ++ [y]) n')) E' (⟨h, s.gens, s.drawn, tk, s.os⟩ : Shared))
    (fin : ∀ (g : Heap) ys nn, J (List.replicate n ()) ys nn → Fin { s with heap := g } ys nn) : LCg.CompSrc prog w A h₀ L m env elt x scope cl Fin (.ref r) s := by
  refine LCg.CompSrc.range hh F N hr hsm hn (by rw [sizeLine_eq]; omega) fun g => ?_
  have := comp_rest (prog := prog) (w := w) (A := A) (s := { s with heap := g }) (h₀ := h₀) (L := L) (m := m) (env := env) (elt := elt) (x := x) (scope := scope) (cl := cl) (S := fun _ => True) (P := fun i v => ∃ t, v = .int (a + (i : Int)) t) (Fin := Fin { s with heap := g }) (List.replicate n ()) J
    (fun pre a' post v ys nn I oI C oC D m₂ h tk E' e hP hJ hC hx F N off ne => turn g pre post v ys nn I oI C oC D m₂ h tk E' e hP hJ hC hx F N off ne) (fin g) (List.replicate n ()) [] [] news rfl h0
  rw [List.length_replicate] at this
  exact this
end
end
section
abbrev tupO (vs : List Value) (c : Nat) : Obj := { cls := .type "tuple", data := .seq vs.toArray c }
section
variable {prog : Program} {w : World} {A : Around} {E : Value → Shared → Prop} {s s₂ : Shared} {h₀ : Heap} {L : Addr} {m : Str → Option Value} {env : Env} {elt iter target : PySem.Expr} {x : Str} {scope : Scope} {cl : List (Str × Addr)} {gens : List Comprehension} {pos : Pos}

/-- a comprehension's block over the iterator I: it ends with a new list ys and a ledger n of which Fin holds -/
def BlockOK (prog : Program) (w : World) (A : Around) (E : Value → Shared → Prop) (h₀ : Heap) (L : Addr) (m : Str → Option Value) (env : Env) (elt : PySem.Expr) (gens : List Comprehension) (scope : Scope) (cl : List (Str × Addr)) (pos : Pos) (I : Addr) (Fin : List Value → Led → Prop) (s₂ : Shared) : Prop :=
  ∀ RR : Value → Addr → Result → Shared → Prop,
    (∀ D C h tk m' ys n, Fr h₀ L h m → News h₀ L h ((D, LCg.lst ys) :: n) → LCg.Off1 D n → h.Ns C m' → h₀.get? C = none → h₀.get? D = none → C ≠ L → D ≠ L → C ≠ D → (∀ p ∈ n, p.1 ≠ C) → Fin ys n → RR (.ref D) C (.ok .next) { s₂ with heap := h, toks := tk }) →
    wpAny (model prog w) A (newList []) (fun acc s₃ => wpAny (model prog w) A (newFunctionEnv scope env.globals cl [] env.qual none .none (some env)) (fun cenv s₄ =>
      codeAny (model prog w) A (.compStart (.ListComp elt gens scope pos) 0 (.ref I) acc { cenv with scope := relabel scope env }) (RR acc cenv.locals) s₄) E s₃) E s₂

theorem eval_block {ifs : List PySem.Expr} {gs : List Comprehension} {Q : Value → Shared → Prop} 
    (hclos : closureFor scope env = pure cl) (hkind : scope.kind = .function) (hnames : ∀ y ∈ scope.names, y.2 = .local → scope.names.lookup y.1 = some .local)
    (h : wpAny (model prog w) A (eval iter env) (fun xv s₁ => wpAny (model prog w) A (pyIter xv) (fun it s₂ => ∃ I Fin, it = .ref I ∧ BlockOK prog w A E h₀ L m env elt (⟨target, iter, ifs, 0⟩ :: gs) scope cl pos I Fin s₂ ∧
      ∀ ys n D h tk, Fin ys n → Fr h₀ L h m → News h₀ L h ((D, LCg.lst ys) :: n) → (∀ p ∈ n, p.1 ≠ D) → Q (.ref D) { s₂ with heap := h, toks := tk }) E s₁) E s)
    (hs : ∀ x, foldedSetIterable iter env x = pure x) :
    wpAny (model prog w) A (eval (.ListComp elt (⟨target, iter, ifs, 0⟩ :: gs) scope pos) env) Q E s := by
  rw [eval_ListComp]
  refine wpAny_comprehension_free (use := none) rfl hs hclos hkind hnames (wpAny_mono h (fun xv s₁ h₁ => wpAny_mono h₁ (fun it s₂ h₂ => ?_) fun _ _ e => e) fun _ _ e => e)
  obtain ⟨I, Fin, rfl, hB, hQ⟩ := h₂
  refine hB (compPost (model prog w) A E none Q) fun D C h tk m' ys n F N o1 hn hC₀ hD₀ hCL hDL hCD offC fin => ?_
  refine ⟨m', hn, fun h'' hs'' => hQ ys n D h'' tk fin (F.change hs'' hCL hC₀) (fun p hp => ?_) (off1_mem o1)⟩
  refine ⟨hs''.extBut _ _ ?_ (N p hp).1, (N p hp).2⟩
  rcases List.mem_cons.mp hp with rfl | hp
  · exact Ne.symm hCD
  · exact offC p hp

theorem assign_block {ifs : List PySem.Expr} {gs : List Comprehension} {y : Str} {py spos : Pos} {Q : Flow → Shared → Prop} (hLe : env.locals = L)
    (hsw : swapsWith (.ListComp elt (⟨target, iter, ifs, 0⟩ :: gs) scope pos) (some (.Name y py)) spos.line env = pure true)
    (hclos : closureFor scope env = pure cl) (hkind : scope.kind = .function) (hnames : ∀ y ∈ scope.names, y.2 = .local → scope.names.lookup y.1 = some .local)
    (hy : env.kindOf y = some .local) (hp : (env.scope.kind == .class || (env.scope.kind == .module && env.locals != env.globals)) = false)
    (h : wpAny (model prog w) A (eval iter env) (fun xv s₁ => wpAny (model prog w) A (pyIter xv) (fun it s₂ => ∃ I Fin, it = .ref I ∧ BlockOK prog w A E h₀ L m env elt (⟨target, iter, ifs, 0⟩ :: gs) scope cl pos I Fin s₂ ∧
      ∀ ys n D h tk, Fin ys n → Fr h₀ L h (fun z => if z = y then some (.ref D) else m z) → News h₀ L h ((D, LCg.lst ys) :: n) → (∀ p ∈ n, p.1 ≠ D) → Q .next { s₂ with heap := h, toks := tk }) E s₁) E s)
    (hs : ∀ x, foldedSetIterable iter env x = pure x) :
    wpAny (model prog w) A (exec (.Assign [.Name y py] (.ListComp elt (⟨target, iter, ifs, 0⟩ :: gs) scope pos) spos) env) Q E s := by
  subst hLe
  rw [exec_Assign_Name_used _ _ _ _ hsw]
  refine wpAny_bind (wpAny_standAt (wpAny_bind ?_))
  show wpAny _ A (do let _ ← comprehension (.ListComp elt (⟨target, iter, ifs, 0⟩ :: gs) scope pos) scope env _ (newList []) false (eval iter env) (some (assign (.Name y py) env))) _ _ s
  refine wpAny_bind (wpAny_mono (wpAny_comprehension_free (use := some (assign (.Name y py) env)) (Q := fun _ s' => Q .next s') rfl hs hclos hkind hnames
    (wpAny_mono h (fun xv s₁ h₁ => wpAny_mono h₁ (fun it s₂ h₂ => ?_) fun _ _ e => e) fun _ _ e => e)) (fun _ s' hq => wpAny_pure (wpAny_pure hq)) fun _ _ e => e)
  obtain ⟨I, Fin, rfl, hB, hQ⟩ := h₂
  refine hB (compPost (model prog w) A E (some (assign (.Name y py) env)) fun _ s' => Q .next s') fun D C h tk m' ys n F N o1 hn hC₀ hD₀ hCL hDL hCD offC fin => ?_
  show wpAny _ A (assign (.Name y py) env (.ref D)) _ _ _
  refine wpAny_assign_Name (wpAny_storeName_local hy F.ns (fun h₂ hn₂ hs₂ => ?_) hp)
  have hL₀ : h₀.get? env.locals = none := Heap.get?_none_of_le F.above
  have F₂ : Fr h₀ env.locals h₂ (fun z => if z = y then some (.ref D) else m z) := ⟨hn₂, fun b o e => hs₂.extBut b o (fun q => by rw [q, hL₀] at e; cases e) (F.keep b o e), F.above⟩
  refine ⟨m', hn.sameBut hs₂ hCL, fun h'' hs'' => hQ ys n D h'' _ fin (F₂.change hs'' hCL hC₀) (fun p hp => ?_) (off1_mem o1)⟩
  have z : h₂.get? p.1 = some p.2 := hs₂.extBut _ _ (N p hp).2.1 (N p hp).1
  refine ⟨hs''.extBut _ _ ?_ z, (N p hp).2⟩
  rcases List.mem_cons.mp hp with rfl | hp
  · exact Ne.symm hCD
  · exact offC p hp

/-- one name over a tuple of the ledger -/
theorem block_tuple {px : Pos} {ax : Addr} {vs : List Value} {c : Nat} {news : Led} {Fin : List Value → Led → Prop} {Q : Value → Shared → Prop} (hh : A.handled = none)
    (hcell : ∀ y ∈ scope.names, y.2 ≠ .cell) (hkind : scope.kind = .function) (hx : scope.names.lookup x = some .local)
    (F : Fr h₀ L s.heap m) (N : News h₀ L s.heap news) (hm : (ax, tupO vs c) ∈ news) (hz : vs.length < 1000000)
    (R : ∀ s₂ : Shared, (∃ g, s₂ = { s with heap := g }) → LCg.CompRest prog w A h₀ L m env elt x scope cl s₂ (fun n => (ax, tupO vs c) ∈ n) (fun i v => vs.toArray[i]? = some v) Fin vs.length 0 [] news)
    (hQ : ∀ I g, BlockOK prog w A E h₀ L m env elt [⟨.Name x px, iter, [], 0⟩] scope cl pos I Fin { s with heap := g } → Q (.ref I) { s with heap := g }) :
    wpAny (model prog w) A (pyIter (.ref ax)) Q E s := by
  have hax := N _ hm
  have hl : s.heap.IsTuple ax vs.toArray := ⟨_, hax.1, rfl, c, rfl⟩
  have hlt : ax < s.heap.objs.size := Heap.lt_size hax.1
  refine wpAny_pyIter_tuple hl (hQ _ _ fun RR hRR => ?_)
  have W := Walks.tuple (prog := prog) (w := w) hh s.heap.objs.size ax (Nat.ne_of_lt hlt) vs.toArray
  have up : ∀ b o, s.heap.get? b = some o → (s.heap.push { cls := .type "tuple_iterator", data := .fields #[.ref ax, .int 0 0] }).get? b = some o := fun b o e => Heap.get?_push_of_some _ e
  refine LCg.block_U W (size_line hz) (fun i h st => by obtain ⟨o, e, _⟩ := st.1; exact ⟨o, e⟩) (fun i h h' o nw st e e' k N' hS => ?_) hcell hkind hx ⟨⟨_, Heap.get?_push_size _ rfl, rfl, rfl⟩, hl.at fun o e => up _ _ e⟩ (fun b hb => ?_)
    (F.keeps up) (N.grown up) (Nat.ne_of_lt F.ns.lt) (next_is_new F) (fun p hp => Nat.ne_of_lt (Heap.lt_size (N p hp).1)) hm (R _ ⟨_, rfl⟩) hRR
  · exact ⟨by obtain ⟨o', q, r⟩ := st.1; cases e.symm.trans q; exact ⟨o, e', r⟩, ⟨_, (N' _ hS).1, rfl, c, rfl⟩⟩
  · show b < (s.heap.push _).objs.size
    rw [Heap.size_push]
    rcases List.mem_cons.mp hb with rfl | hb
    · exact Nat.lt_succ_self _
    · rw [List.mem_singleton.mp hb]; exact Nat.lt_succ_of_lt hlt
end

section
variable {prog : Program} {w : World} {A : Around} {E : Value → Shared → Prop} {s : Shared} {h₀ : Heap} {L l a b : Addr} {m : Str → Option Value} {news N0 : Led} {vs xs ys : List Value} {c d : Nat} {Q : Value → Shared → Prop}
theorem tuple_mem (F : Fr h₀ L s.heap m) (N : News h₀ L s.heap news) (hm : (l, listOf vs.toArray c) ∈ news) (hz : vs.length < 1000000)
    (h : ∀ D h', Fr h₀ L h' m → News h₀ L h' ((D, tupO vs 0) :: news) → (∀ p ∈ news, @LT.lt Nat _ p.1 D) → Q (.ref D) { s with heap := h' }) : wpAny (model prog w) A (call (.type "tuple") [.ref l]) Q E s :=
  call_tuple_list (News.isList N hm) (fun h' hk => h _ _ ((F.keeps hk).push _) (News.push (F.keeps hk) (N.grown hk) _ rfl) fun p hp => Heap.lt_size (hk _ _ (N p hp).1)) (size_line hz)
theorem addT_mem (F : Fr h₀ L s.heap m) (N : News h₀ L s.heap news) (ha : (a, tupO xs c) ∈ news) (hb : (b, tupO ys d) ∈ news) (hx : xs ≠ []) (hz : xs.length + ys.length < 16000) (hN0 : ∀ p ∈ N0, p ∈ news) (ha0 : ∀ q ∈ N0, a ≠ q.1)
    (h : ∀ D c' h' tl, Fr h₀ L h' m → News h₀ L h' (tl ++ news) → (D, tupO (xs ++ ys) c') ∈ tl ++ news → (∀ q ∈ N0, D ≠ q.1) → Q (.ref D) { s with heap := h' }) : wpAny (model prog w) A (binaryOp .Add (.ref a) (.ref b)) Q E s := by
  by_cases hy : ys = []
  · subst hy
    refine kde_addT1 F N (News.isTup N ha) (News.isTup N hb) (by simpa using hx) (by simp) (by simpa using (by simpa using Nat.le_of_lt (Nat.lt_of_lt_of_le hz (by decide)) : xs.length ≤ 16384)) (h a c s.heap [] F N (by rw [List.append_nil]; exact ha) ha0)
  · refine kde_addT F N (News.isTup N ha) (News.isTup N hb) (by simpa using hx) (by simpa using hy) (by simpa using (by omega : xs.length + ys.length ≤ 16384)) rfl fun D h' F' N' l1 => ?_
    exact h D 0 h' [_] F' N' (.head _) fun q hq => Ne.symm (Nat.ne_of_lt (l1 q (hN0 q hq)))
end
end
local macro_rules | `(tactic| walk_at "call type:tuple") => `(tactic| (k_here; (with_reducible show wpAny _ _ (call (Value.type "tuple") [Value.ref _]) _ _ _); k_dflt (refine' tuple_mem ?F ?N ?a ?z ?_; (case F => k_asm); (case N => k_asm); (case a => k_mem); (case z => omega)); intro D' h' F' N' l1; (try k_lt l1); (try k_sweep)))
section
section
variable {prog : Program} {w : World} {A : Around} {E : Value → Shared → Prop} {s s₂ : Shared} {h₀ : Heap} {L : Addr} {m : Str → Option Value} {env : Env} {elt iter : PySem.Expr} {scope : Scope} {cl : List (Str × Addr)} {pos : Pos}

/-- a comprehension's loop stands between two turns -/
def Mid (h₀ : Heap) (L : Addr) (m : Str → Option Value) (s : Shared) (I ax C D : Addr) (vs : List Value) (c : Nat) (J : List Value → List Value → Led → Prop) (k : Nat) (s' : Shared) : Prop :=
  ∃ h' tk pre post ys mC n, s' = { s with heap := h', toks := tk } ∧ vs = pre ++ post ∧ k = post.length ∧ ys.length < 1000000 ∧ h'.IsListIter I ax pre.length ∧ Fr h₀ L h' m ∧ h'.Ns C mC ∧ News h₀ L h' ((D, LCg.lst ys) :: n) ∧ LCg.Off3 I C D n ∧ (ax, listOf vs.toArray c) ∈ n ∧ J pre ys n

theorem three_of {I C D : Addr} {oI oC oD : Obj} {n : Led} {h : Heap} (hI : h.get? I = some oI ∧ I ≠ L ∧ h₀.get? I = none) (hC : h.get? C = some oC ∧ C ≠ L ∧ h₀.get? C = none) (N : News h₀ L h ((D, oD) :: n)) : News h₀ L h (Three I oI C oC D oD n) := fun p hp => by
  rcases List.mem_cons.mp hp with rfl | hp
  · exact hI
  · rcases List.mem_cons.mp hp with rfl | hp
    · exact hC
    · exact N p hp

/-- one step of the list iterator I: the frame, the block's names, the ledger stand -/
theorem mid_next {I ax C D : Addr} {vs : List Value} {c : Nat} {J : List Value → List Value → Led → Prop} {k : Nat} {s' : Shared} {Q : Option Value → Shared → Prop} {E' : Value → Shared → Prop} (hh : A.handled = none)
    (hIL : I ≠ L) (hI₀ : h₀.get? I = none) (hIC : I ≠ C) (hID : I ≠ D) (hIax : ax ≠ I)
    (M : Mid h₀ L m s I ax C D vs c J k s')
    (more : ∀ h tk pre v post ys mC oI oC n, vs = pre ++ v :: post → k = post.length + 1 → ys.length < 1000000 → h.IsListIter I ax (pre.length + 1) → LCg.NsObj oC mC → Fr h₀ L h m → h.get? C = some oC → h.get? I = some oI → News h₀ L h ((D, LCg.lst ys) :: n) → LCg.Off3 I C D n → (ax, listOf vs.toArray c) ∈ n → J pre ys n → Q (some v) { s with heap := h, toks := tk })
    (done : ∀ h tk ys mC n, Fr h₀ L h m → h.Ns C mC → News h₀ L h ((D, LCg.lst ys) :: n) → LCg.Off3 I C D n → J vs ys n → Q none { s with heap := h, toks := tk }) :
    wpAny (model prog w) A (pyNext (.ref I)) Q E' s' := by
  obtain ⟨h', tk, pre, post, ys, mC, n, rfl, rfl, rfl, hys, hit, F, hC, N, off, hm, hJ⟩ := M
  have hl : h'.IsList ax (pre ++ post).toArray := News.isList N (.tail _ hm)
  have W := Walks.list (prog := prog) (w := w) hh I ax hIax (pre ++ post).toArray
  have keep : ∀ h₁ : Heap, (∀ b o, b ∉ [I] → h'.get? b = some o → h₁.get? b = some o) → Fr h₀ L h₁ m ∧ h₁.Ns C mC ∧ News h₀ L h₁ ((D, LCg.lst ys) :: n) := fun h₁ hk₁ =>
    ⟨LCg.fr_but F hk₁ (Ne.symm hIL) hI₀, hC.at' fun o e => hk₁ _ o (by simpa using Ne.symm hIC) e, LCg.news_but N hk₁ fun p hp => by
      rcases List.mem_cons.mp hp with rfl | hp
      · exact Ne.symm hID
      · exact (off.mem p hp).1⟩
  cases post with
  | nil =>
    rw [List.append_nil] at hl W hm
    refine W.done _ _ _ ⟨by simpa using hit, hl⟩ fun h₁ tk₁ hk₁ => ?_
    obtain ⟨F₁, hC₁, N₁⟩ := keep h₁ hk₁
    exact done h₁ tk₁ ys mC n F₁ hC₁ N₁ off (by rw [List.append_nil]; exact hJ)
  | cons v r =>
    refine W.item pre.length _ _ _ (by simp) ⟨hit, hl⟩ fun v' h₁ tk₁ hP hst hk₁ => ?_
    have hv : v' = v := by
      have hP' : (pre ++ v :: r)[pre.length]? = some v' := by simpa using hP
      rw [List.getElem?_append_right (Nat.le_refl _), Nat.sub_self] at hP'
      exact (Option.some.inj hP').symm
    subst hv
    obtain ⟨F₁, hC₁, N₁⟩ := keep h₁ hk₁
    obtain ⟨oC, heC, hoC⟩ := LCg.ns_obj hC₁
    obtain ⟨oI, heI, _⟩ := id hst.1
    exact more h₁ tk₁ pre v' r ys mC oI oC n rfl rfl hys hst.1 hoC F₁ heC heI N₁ off hm hJ

/-- what a turn leaves, after the append -/
theorem mid_append {I ax C D : Addr} {vs : List Value} {c : Nat} {J : List Value → List Value → Led → Prop} {pre post ys : List Value} {v y : Value} {n : Led} {oI oC : Obj} {mC : Str → Option Value} {h' : Heap} {tk k : Nat} {E' : Value → Shared → Prop}
    (hCL : C ≠ L) (hC₀ : h₀.get? C = none) (hDL : D ≠ L) (hD₀ : h₀.get? D = none) (hCD : C ≠ D) (hID : I ≠ D)
    (e : vs = pre ++ v :: post) (hk : k = post.length + 1) (hys : ys.length + 1 < 1000000) (F : Fr h₀ L h' m) (N : News h₀ L h' (Three I oI C oC D (LCg.lst ys) n)) (hoC : LCg.NsObj oC mC) (hit : ∀ h : Heap, h.get? I = some oI → h.IsListIter I ax (pre.length + 1)) (off : LCg.Off3 I C D n) (hm : (ax, listOf vs.toArray c) ∈ n)
    (hJ : J (pre ++ [v]) (ys ++ [y]) n) :
    wpAny (model prog w) A (call (.builtin "list.append") [.ref D, y]) (fun _ s₅ => ∃ k', k' < k ∧ Mid h₀ L m s I ax C D vs c J k' s₅) E' { s with heap := h', toks := tk } := by
  have zI := (N (I, oI) (.head _)).1
  have zC := (N (C, oC) (.tail _ (.head _))).1
  have zD := (N (D, LCg.lst ys) (.tail _ (.tail _ (.head _)))).1
  refine append_at (hsz := size_line (by omega)) zD fun h₅ hs₅ hD₅ => ?_
  refine ⟨post.length, by omega, h₅, tk, pre ++ [v], post, ys ++ [y], mC, n, rfl, by rw [e]; simp, rfl, by rw [List.length_append, List.length_singleton]; exact hys, ?_, F.change hs₅ hDL hD₀, (hoC.ns zC).sameBut hs₅ (Ne.symm (Ne.symm hCD)), fun p hp => ?_, off, hm, hJ⟩
  · rw [List.length_append, List.length_singleton]
    exact hit _ (hs₅.extBut _ _ hID zI)
  · rcases List.mem_cons.mp hp with rfl | hp
    · exact ⟨hD₅.trans (congrArg some (LCg.lst_snoc ys y)), hDL, hD₀⟩
    · exact ⟨hs₅.extBut _ _ (off.mem p hp).2.2 (N p (.tail _ (.tail _ (.tail _ hp)))).1, (N p (.tail _ (.tail _ (.tail _ hp)))).2⟩
theorem iter_same {h h' : Heap} {I ax : Addr} {i : Nat} {o : Obj} (x : h.IsListIter I ax i) (e : h.get? I = some o) (e' : h'.get? I = some o) : h'.IsListIter I ax i := by
  obtain ⟨o', q, r⟩ := x
  cases e.symm.trans q
  exact ⟨o, e', r⟩

/-- several names over a list of the ledger -/
theorem block_unpack {elts : List PySem.Expr} {x1 : Nat} {tp : Pos} {ax : Addr} {vs : List Value} {c : Nat} {news : Led} {Q : Value → Shared → Prop} (J : List Value → List Value → Led → Prop) (hh : A.handled = none)
    (hcell : ∀ y ∈ scope.names, y.2 ≠ .cell) (hkind : scope.kind = .function)
    (F : Fr h₀ L s.heap m) (N : News h₀ L s.heap news) (hm : (ax, listOf vs.toArray c) ∈ news) (hz : vs.length < 1000) (hv : ∀ v ∈ vs, ∃ T, v = Value.ref T) (h0 : J [] [] news)
    (hJm : ∀ pre ys n, J pre ys n → (ax, listOf vs.toArray c) ∈ n ∧ ys.length ≤ pre.length)
    (turn : ∀ (g : Heap) pre v post ys n I oI C oC D mC h tk (E' : Value → Shared → Prop), vs = pre ++ v :: post → J pre ys n → LCg.NsObj oC mC → Fr h₀ L h m → News h₀ L h (Three I oI C oC D (LCg.lst ys) n) → LCg.Off3 I C D n → ((@Ne Nat I C) ∧ (@Ne Nat I D) ∧ (@Ne Nat C D)) →
      wpAny (model prog w) A (assign (.Tuple elts x1 tp) (compEnvC scope cl C env) v) (fun _ s' => wpAny (model prog w) A (eval elt (compEnvC scope cl C env))
        (fun y s'' => ∃ h' tk' oC' mC' n', s'' = (⟨h', s.gens, s.drawn, tk', s.os⟩ : Shared) ∧ Fr h₀ L h' m ∧ LCg.NsObj oC' mC' ∧ News h₀ L h' (Three I oI C oC' D (LCg.lst ys) n') ∧ LCg.Off3 I C D n' ∧ J (pre ++ [v]) (ys ++ [y]) n') E' s') E' (⟨h, s.gens, s.drawn, tk, s.os⟩ : Shared))
    (hQ : ∀ I g, BlockOK prog w A E h₀ L m env elt [⟨.Tuple elts x1 tp, iter, [], 0⟩] scope cl pos I (fun ys n => J vs ys n) { s with heap := g } → Q (.ref I) { s with heap := g }) :
    wpAny (model prog w) A (pyIter (.ref ax)) Q E s := by
  have hax := N _ hm
  have hl : s.heap.IsList ax vs.toArray := News.isList N hm
  have hlt : ax < s.heap.objs.size := Heap.lt_size hax.1
  refine wpAny_pyIter_list hl (hQ _ _ fun RR hRR => ?_)
  generalize hg : s.heap.push { cls := .type "list_iterator", data := .fields #[.ref ax, .int 0 0] } = g
  have up : ∀ b o, s.heap.get? b = some o → g.get? b = some o := fun b o e => hg ▸ Heap.get?_push_of_some _ e
  have hIg : g.get? s.heap.objs.size = some { cls := .type "list_iterator", data := .fields #[.ref ax, .int 0 0] } := hg ▸ Heap.get?_push_size _ rfl
  have hgs : g.objs.size = s.heap.objs.size + 1 := by rw [← hg, Heap.size_push]
  have F₁ : Fr h₀ L g m := F.keeps up
  have hI₀ : h₀.get? s.heap.objs.size = none := next_is_new F
  have hIL : s.heap.objs.size ≠ L := Ne.symm (Nat.ne_of_lt F.ns.lt)
  refine wpAny_newObj_type (wpAny_newFunctionEnv hcell (by intro y hy; simp at hy) (fun h₁ hns₁ hsb₁ => ?_) hkind)
  dsimp only at hns₁ hsb₁ ⊢
  generalize hH2 : g.push { cls := .type "list", dict := none, data := .seq ([] : List Value).toArray } = H2 at hns₁ hsb₁ ⊢
  have hCs : H2.objs.size = g.objs.size + 1 := by rw [← hH2, Heap.size_push]
  have hne1 : g.objs.size ≠ H2.objs.size := by rw [hCs]; exact Nat.ne_of_lt (Nat.lt_succ_self _)
  have below : ∀ b, b < g.objs.size → b ≠ H2.objs.size ∧ b ≠ g.objs.size := fun b hb => ⟨by rw [hCs]; exact Nat.ne_of_lt (Nat.lt_succ_of_lt hb), Nat.ne_of_lt hb⟩
  have old : ∀ b o, g.get? b = some o → h₁.get? b = some o := fun b o e => hsb₁.extBut b o (below b (Heap.lt_size e)).1 (Heap.get?_push_of_some _ (hH2 ▸ Heap.get?_push_of_some _ e))
  have hacc : h₁.get? g.objs.size = some (LCg.lst []) := hsb₁.extBut _ _ hne1 (Heap.get?_push_of_some _ (hH2 ▸ Heap.get?_push_size _ rfl))
  have fresh₀ : ∀ a, g.objs.size ≤ a → h₀.get? a = none := fun a ha => by
    cases e : h₀.get? a with
    | none => rfl
    | some o' => exact absurd (Heap.lt_size (F₁.keep a o' e)) (Nat.not_lt.mpr ha)
  have hD₀ : h₀.get? g.objs.size = none := fresh₀ _ (Nat.le_refl _)
  have hC₀ : h₀.get? H2.objs.size = none := fresh₀ _ (by rw [hCs]; exact Nat.le_succ _)
  have hDL : g.objs.size ≠ L := Ne.symm (below L F₁.ns.lt).2
  have hCL : H2.objs.size ≠ L := Ne.symm (below L F₁.ns.lt).1
  have hIlt : s.heap.objs.size < g.objs.size := by rw [hgs]; exact Nat.lt_succ_self _
  have hIC : s.heap.objs.size ≠ H2.objs.size := (below _ hIlt).1
  have hID : s.heap.objs.size ≠ g.objs.size := (below _ hIlt).2
  have hCD : H2.objs.size ≠ g.objs.size := Ne.symm hne1
  have off₀ : LCg.Off3 s.heap.objs.size H2.objs.size g.objs.size news := LCg.Off3.of fun p hp =>
    have hp' := Heap.lt_size (up _ _ (N p hp).1)
    ⟨Nat.ne_of_lt (Heap.lt_size (N p hp).1), (below _ hp').1, (below _ hp').2⟩
  have N₁ : News h₀ L h₁ ((g.objs.size, LCg.lst []) :: news) := fun p hp => by
    rcases List.mem_cons.mp hp with rfl | hp
    · exact ⟨hacc, hDL, hD₀⟩
    · exact ⟨old _ _ (up _ _ (N p hp).1), (N p hp).2⟩
  have it₁ : h₁.IsListIter s.heap.objs.size ax 0 := ⟨_, old _ _ hIg, rfl, rfl⟩
  have loop : codeAny (model prog w) A (.compLoop (.ListComp elt [⟨.Tuple elts x1 tp, iter, [], 0⟩] scope pos) 0 (.ref s.heap.objs.size) (.ref g.objs.size) (compEnvC scope cl H2.objs.size env)) (RR (.ref g.objs.size) H2.objs.size)
      { s with heap := h₁, toks := s.toks + ([] : List (Str × Value)).length } := by
    refine LCp.codeAny_compLoop_pair (Mid h₀ L m { s with heap := g } s.heap.objs.size ax H2.objs.size g.objs.size vs c J) (fun k s' M => ?_) vs.length
      ⟨h₁, _, [], vs, [], _, news, rfl, rfl, rfl, by decide, it₁, F₁.keeps old, hns₁, N₁, off₀, hm, h0⟩
    refine mid_next hh hIL hI₀ hIC hID (Nat.ne_of_lt hlt) M ?_ ?_
    · intro h tk pre v post ys mC oI oC n e hk hys hit hoC F₂ heC heI N₂ off hm₂ hJ
      obtain ⟨T, rfl⟩ := hv v (by rw [e]; simp)
      refine wpAny_letOwnedTupleGo_listiter hit ?_
      have N3 : News h₀ L h (Three s.heap.objs.size oI H2.objs.size oC g.objs.size (LCg.lst ys) n) := three_of ⟨heI, hIL, hI₀⟩ ⟨heC, hCL, hC₀⟩ N₂
      refine wpAny_mono (turn g pre (.ref T) post ys n _ oI _ oC _ mC h tk _ e hJ hoC F₂ N3 off ⟨hIC, hID, hCD⟩) (fun _ s₃ h₃ => wpAny_mono h₃ (fun y s₄ h₄ => ?_) fun _ _ e => e) fun _ _ e => e
      obtain ⟨h', tk', oC', mC', n', rfl, F', hoC', N', off', hJ'⟩ := h₄
      obtain ⟨hm', hl'⟩ := hJm _ _ _ hJ'
      have hl'' := hl'
      rw [List.length_append, List.length_append, List.length_singleton, List.length_singleton] at hl''
      have hpz : pre.length < 1000 := by rw [e, List.length_append] at hz; omega
      exact mid_append hCL hC₀ hDL hD₀ hCD hID e hk (by omega) F' N' hoC' (fun h e' => iter_same hit heI e') off' hm' hJ'
    · intro h tk ys mC n F₂ hC N₂ off hJ
      exact hRR _ _ h tk _ ys n F₂ N₂ off.one hC hC₀ hD₀ hCL hDL hCD (fun p hp => (off.mem p hp).2.1) hJ
  exact codeAny_compStart_list loop (wpAny_pyIter_listiter it₁ loop)
end
end
section
theorem compTurn_two0 (elt t1 i1 t2 i2 : PySem.Expr) (scope : Scope) (pos : Pos) (it acc : Value) (env : Env) :
    compTurn (.ListComp elt [⟨t1, i1, [], 0⟩, ⟨t2, i2, [], 0⟩] scope pos) 0 it acc env = (standAt i1.pos >>= fun _ => pyNext it >>= fun r => match r with
      | none => pure (.done .next)
      | some v => letOwnedTupleGo t1 it v >>= fun _ => assign t1 env v >>= fun _ => eval i2 env >>= fun x => standAt i2.pos >>= fun _ => foldedSetIterable i2 env x >>= fun x =>
        holding [x] (pyIter x) >>= fun it' => runOwn (.compStart (.ListComp elt [⟨t1, i1, [], 0⟩, ⟨t2, i2, [], 0⟩] scope pos) 1 it' acc env) env >>= fun _ =>
          again (.compLoop (.ListComp elt [⟨t1, i1, [], 0⟩, ⟨t2, i2, [], 0⟩] scope pos) 0 it acc env)) := by rfl
theorem compTurn_two1 (elt t1 i1 t2 i2 : PySem.Expr) (scope : Scope) (pos : Pos) (it acc : Value) (env : Env) :
    compTurn (.ListComp elt [⟨t1, i1, [], 0⟩, ⟨t2, i2, [], 0⟩] scope pos) 1 it acc env = (standAt i2.pos >>= fun _ => pyNext it >>= fun r => match r with
      | none => pure (.done .next)
      | some v => letOwnedTupleGo t2 it v >>= fun _ => assign t2 env v >>= fun _ =>
        (eval elt env >>= fun x => call (.builtin "list.append") [acc, x] >>= fun _ => pure ()) >>= fun _ =>
          again (.compLoop (.ListComp elt [⟨t1, i1, [], 0⟩, ⟨t2, i2, [], 0⟩] scope pos) 1 it acc env)) := by rfl
section
variable {prog : Program} {w : World} {A : Around} {E : Value → Shared → Prop} {R : Result → Shared → Prop} {s s₂ : Shared} {h₀ : Heap} {L : Addr} {m : Str → Option Value} {env : Env} {scope : Scope} {cl : List (Str × Addr)} {pos : Pos} {i1 i2 elt : PySem.Expr} {fr nb : Str} {p1 p2 p3 : Pos} {it acc : Value}

theorem loop_two1 (Inv : Nat → Shared → Prop)
    (turn : ∀ n s (E' : Value → Shared → Prop), Inv n s → wpAny (model prog w) A (pyNext it) (fun r s₁ => match r with
      | none => R (.ok .next) s₁
      | some v => wpAny (model prog w) A (assign (.Name nb p2) env v) (fun _ s₂ => wpAny (model prog w) A (eval elt env) (fun x s₃ => wpAny (model prog w) A (call (.builtin "list.append") [acc, x]) (fun _ s₄ => ∃ m, m < n ∧ Inv m s₄) E' s₃) E' s₂) E' s₁) E' s)
    (n : Nat) (h : Inv n s) : codeAny (model prog w) A (.compLoop (.ListComp elt [⟨.Name fr p1, i1, [], 0⟩, ⟨.Name nb p2, i2, [], 0⟩] scope pos) 1 it acc env) R s := by
  refine codeAny_loop rfl Inv (fun n s hI => ?_) n h
  show wpAny _ A ((compTurn (.ListComp elt [⟨.Name fr p1, i1, [], 0⟩, ⟨.Name nb p2, i2, [], 0⟩] scope pos) 1 it acc env).onRaise (fun x => do noteFrame x env; theTreesLotGoes x)) _ _ s
  refine wpAny_noted ?_
  rw [compTurn_two1]
  refine wpAny_bind (wpAny_standAt (wpAny_bind (wpAny_mono (turn n s _ hI) (fun r s₁ h₁ => ?_) fun _ _ h' => h')))
  cases r with
  | none => exact wpAny_pure h₁
  | some v =>
    refine wpAny_bind (wpAny_of_eq (t := letOwnedTupleGo (.Name nb p2) it v) (a := ()) rfl ?_)
    exact wpAny_bind (wpAny_mono h₁ (fun _ s₂ h₂ => wpAny_bind (wpAny_bind (wpAny_mono h₂ (fun x s₃ h₃ => wpAny_bind (wpAny_mono h₃ (fun _ s₄ h₄ => wpAny_pure (wpAny_pure ⟨rfl, h₄⟩)) fun _ _ h' => h')) fun _ _ h' => h'))) fun _ _ h' => h')
theorem start_two1 (h0 : codeAny (model prog w) A (.compLoop (.ListComp elt [⟨.Name fr p1, i1, [], 0⟩, ⟨.Name nb p2, i2, [], 0⟩] scope pos) 1 it acc env) R s)
    (h : ∀ E', wpAny (model prog w) A (pyIter it) (fun it' s' => codeAny (model prog w) A (.compLoop (.ListComp elt [⟨.Name fr p1, i1, [], 0⟩, ⟨.Name nb p2, i2, [], 0⟩] scope pos) 1 it' acc env) R s') E' s) :
    codeAny (model prog w) A (.compStart (.ListComp elt [⟨.Name fr p1, i1, [], 0⟩, ⟨.Name nb p2, i2, [], 0⟩] scope pos) 1 it acc env) R s := by
  refine codeAny_of_tree ?_
  show wpAny _ _ ((compStart (.ListComp elt [⟨.Name fr p1, i1, [], 0⟩, ⟨.Name nb p2, i2, [], 0⟩] scope pos) 1 it acc env).onRaise (fun x => do noteFrame x env; standAt theWindowsPlace)) _ _ s
  refine wpAny_notedAt ?_
  unfold compStart
  show wpAny _ _ (ask >>= _) _ _ s
  refine wpAny_bind (wpAny_askSetting (wpAny_ite ?_))
  split
  · first
      | exact wpAny_bind (wpAny_pure (wpAny_pure (And.intro rfl h0)))
      | exact wpAny_pure (And.intro rfl h0)
  · first
      | exact wpAny_bind (wpAny_rule (wpAny_bind (wpAny_standAt (wpAny_bind (wpAny_mono (h _) (fun it' s' h' => wpAny_pure (And.intro rfl h')) fun _ _ x => x)))))
      | (refine wpAny_bind (wpAny_rule ?_); show wpAny _ _ (standAt i2.pos >>= _) _ _ s; exact wpAny_bind (wpAny_standAt (wpAny_bind (wpAny_mono (h _) (fun it' s' h' => wpAny_pure (And.intro rfl h')) fun _ _ x => x))))
theorem loop_two0 (Inv : Nat → Shared → Prop) (hs : ∀ x, foldedSetIterable i2 env x = pure x)
    (turn : ∀ n s (E' : Value → Shared → Prop), Inv n s → wpAny (model prog w) A (pyNext it) (fun r s₁ => match r with
      | none => R (.ok .next) s₁
      | some v => wpAny (model prog w) A (assign (.Name fr p1) env v) (fun _ s₂ => wpAny (model prog w) A (eval i2 env) (fun x s₃ => wpAny (model prog w) A (pyIter x) (fun it' s₄ =>
          codeAny (model prog w) A (.compStart (.ListComp elt [⟨.Name fr p1, i1, [], 0⟩, ⟨.Name nb p2, i2, [], 0⟩] scope pos) 1 it' acc env) (fun r s₅ => match r with | .ok _ => ∃ m, m < n ∧ Inv m s₅ | .error _ => False) s₄) E' s₃) E' s₂) E' s₁) E' s)
    (n : Nat) (h : Inv n s) : codeAny (model prog w) A (.compLoop (.ListComp elt [⟨.Name fr p1, i1, [], 0⟩, ⟨.Name nb p2, i2, [], 0⟩] scope pos) 0 it acc env) R s := by
  refine codeAny_loop rfl Inv (fun n s hI => ?_) n h
  show wpAny _ A ((compTurn (.ListComp elt [⟨.Name fr p1, i1, [], 0⟩, ⟨.Name nb p2, i2, [], 0⟩] scope pos) 0 it acc env).onRaise (fun x => do noteFrame x env; theTreesLotGoes x)) _ _ s
  refine wpAny_noted ?_
  rw [compTurn_two0]
  refine wpAny_bind (wpAny_standAt (wpAny_bind (wpAny_mono (turn n s _ hI) (fun r s₁ h₁ => ?_) fun _ _ h' => h')))
  cases r with
  | none => exact wpAny_pure h₁
  | some v =>
    refine wpAny_bind (wpAny_of_eq (t := letOwnedTupleGo (.Name fr p1) it v) (a := ()) rfl ?_)
    refine wpAny_bind (wpAny_mono h₁ (fun _ s₂ h₂ => ?_) fun _ _ h' => h')
    refine wpAny_bind (wpAny_mono h₂ (fun x s₃ h₃ => ?_) fun _ _ h' => h')
    refine wpAny_bind (wpAny_standAt (wpAny_bind (wpAny_of_eq (hs x) ?_)))
    refine wpAny_bind (wpAny_holding (wpAny_mono h₃ (fun it' s₄ h₄ => ?_) fun _ _ h' => h'))
    refine wpAny_bind (wpAny_runOwn (codeAny_mono h₄ fun r s₅ h₅ => ?_))
    cases r with
    | ok f => exact wpAny_pure ⟨rfl, h₅⟩
    | error e => exact h₅.elim
end
section
variable {prog : Program} {w : World} {A : Around} {E : Value → Shared → Prop} {s s₂ : Shared} {h₀ : Heap} {L : Addr} {m : Str → Option Value} {env : Env} {elt iter target : PySem.Expr} {scope : Scope} {cl : List (Str × Addr)} {pos : Pos} {gens : List Comprehension}
/-- the block over a list of the ledger is entered: what is left is its loop -/
theorem block_open {ifs : List PySem.Expr} {gs : List Comprehension} {ax : Addr} {vs : List Value} {c : Nat} {news : Led} {Q : Value → Shared → Prop} (J : List Value → List Value → Led → Prop)
    (hcell : ∀ y ∈ scope.names, y.2 ≠ .cell) (hkind : scope.kind = .function)
    (F : Fr h₀ L s.heap m) (N : News h₀ L s.heap news) (hm : (ax, listOf vs.toArray c) ∈ news) (h0 : J [] [] news)
    (loop : ∀ I g C D s₃ (RR : Value → Addr → Result → Shared → Prop), I ≠ L → h₀.get? I = none → C ≠ L → h₀.get? C = none → D ≠ L → h₀.get? D = none → I ≠ C → I ≠ D → C ≠ D → ax ≠ I → Mid h₀ L m { s with heap := g } I ax C D vs c J vs.length s₃ →
      (∀ h tk mC ys n, Fr h₀ L h m → h.Ns C mC → News h₀ L h ((D, LCg.lst ys) :: n) → LCg.Off3 I C D n → J vs ys n → RR (.ref D) C (.ok .next) { ({ s with heap := g } : Shared) with heap := h, toks := tk }) →
      codeAny (model prog w) A (.compLoop (.ListComp elt (⟨target, iter, ifs, 0⟩ :: gs) scope pos) 0 (.ref I) (.ref D) (compEnvC scope cl C env)) (RR (.ref D) C) s₃)
    (hQ : ∀ I g, BlockOK prog w A E h₀ L m env elt (⟨target, iter, ifs, 0⟩ :: gs) scope cl pos I (fun ys n => J vs ys n) { s with heap := g } → Q (.ref I) { s with heap := g }) :
    wpAny (model prog w) A (pyIter (.ref ax)) Q E s := by
  have hax := N _ hm
  have hl : s.heap.IsList ax vs.toArray := News.isList N hm
  have hlt : ax < s.heap.objs.size := Heap.lt_size hax.1
  refine wpAny_pyIter_list hl (hQ _ _ fun RR hRR => ?_)
  generalize hg : s.heap.push { cls := .type "list_iterator", data := .fields #[.ref ax, .int 0 0] } = g
  have up : ∀ b o, s.heap.get? b = some o → g.get? b = some o := fun b o e => hg ▸ Heap.get?_push_of_some _ e
  have hIg : g.get? s.heap.objs.size = some { cls := .type "list_iterator", data := .fields #[.ref ax, .int 0 0] } := hg ▸ Heap.get?_push_size _ rfl
  have hgs : g.objs.size = s.heap.objs.size + 1 := by rw [← hg, Heap.size_push]
  have F₁ : Fr h₀ L g m := F.keeps up
  refine wpAny_newObj_type (wpAny_newFunctionEnv hcell (by intro y hy; simp at hy) (fun h₁ hns₁ hsb₁ => ?_) hkind)
  dsimp only at hns₁ hsb₁ ⊢
  generalize hH2 : g.push { cls := .type "list", dict := none, data := .seq ([] : List Value).toArray } = H2 at hns₁ hsb₁ ⊢
  have hCs : H2.objs.size = g.objs.size + 1 := by rw [← hH2, Heap.size_push]
  have hne1 : g.objs.size ≠ H2.objs.size := by rw [hCs]; exact Nat.ne_of_lt (Nat.lt_succ_self _)
  have below : ∀ b, b < g.objs.size → b ≠ H2.objs.size ∧ b ≠ g.objs.size := fun b hb => ⟨by rw [hCs]; exact Nat.ne_of_lt (Nat.lt_succ_of_lt hb), Nat.ne_of_lt hb⟩
  have old : ∀ b o, g.get? b = some o → h₁.get? b = some o := fun b o e => hsb₁.extBut b o (below b (Heap.lt_size e)).1 (Heap.get?_push_of_some _ (hH2 ▸ Heap.get?_push_of_some _ e))
  have hacc : h₁.get? g.objs.size = some (LCg.lst []) := hsb₁.extBut _ _ hne1 (Heap.get?_push_of_some _ (hH2 ▸ Heap.get?_push_size _ rfl))
  have fresh₀ : ∀ a, g.objs.size ≤ a → h₀.get? a = none := fun a ha => by
    cases e : h₀.get? a with
    | none => rfl
    | some o' => exact absurd (Heap.lt_size (F₁.keep a o' e)) (Nat.not_lt.mpr ha)
  have hD₀ : h₀.get? g.objs.size = none := fresh₀ _ (Nat.le_refl _)
  have hC₀ : h₀.get? H2.objs.size = none := fresh₀ _ (by rw [hCs]; exact Nat.le_succ _)
  have hDL : g.objs.size ≠ L := Ne.symm (below L F₁.ns.lt).2
  have hCL : H2.objs.size ≠ L := Ne.symm (below L F₁.ns.lt).1
  have hIlt : s.heap.objs.size < g.objs.size := by rw [hgs]; exact Nat.lt_succ_self _
  have hIC : s.heap.objs.size ≠ H2.objs.size := (below _ hIlt).1
  have hID : s.heap.objs.size ≠ g.objs.size := (below _ hIlt).2
  have hCD : H2.objs.size ≠ g.objs.size := Ne.symm hne1
  have off₀ : LCg.Off3 s.heap.objs.size H2.objs.size g.objs.size news := LCg.Off3.of fun p hp =>
    have hp' := Heap.lt_size (up _ _ (N p hp).1)
    ⟨Nat.ne_of_lt (Heap.lt_size (N p hp).1), (below _ hp').1, (below _ hp').2⟩
  have N₁ : News h₀ L h₁ ((g.objs.size, LCg.lst []) :: news) := fun p hp => by
    rcases List.mem_cons.mp hp with rfl | hp
    · exact ⟨hacc, hDL, hD₀⟩
    · exact ⟨old _ _ (up _ _ (N p hp).1), (N p hp).2⟩
  have it₁ : h₁.IsListIter s.heap.objs.size ax 0 := ⟨_, old _ _ hIg, rfl, rfl⟩
  have go := loop s.heap.objs.size g H2.objs.size g.objs.size { s with heap := h₁, toks := s.toks + ([] : List (Str × Value)).length } RR (Ne.symm (Nat.ne_of_lt F.ns.lt)) (next_is_new F) hCL hC₀ hDL hD₀ hIC hID hCD (Nat.ne_of_lt hlt)
    ⟨h₁, _, [], vs, [], _, news, rfl, rfl, rfl, by decide, it₁, F₁.keeps old, hns₁, N₁, off₀, hm, h0⟩
    (fun h tk mC ys n F₂ hC N₂ off hJ => hRR _ _ h tk _ ys n F₂ N₂ off.one hC hC₀ hD₀ hCL hDL hCD (fun p hp => (off.mem p hp).2.1) hJ)
  exact codeAny_compStart_list go (wpAny_pyIter_listiter it₁ go)

/-- two clauses, the second over a list that the first one's item gives; the element is the second name -/
theorem block_two {fr nb : Str} {p1 p2 p3 : Pos} {i1 i2 : PySem.Expr} {ax : Addr} {vs : List Value} {c : Nat} {news : Led} {Q : Value → Shared → Prop} (J : List Value → List Value → Led → Prop) (hh : A.handled = none)
    (hcell : ∀ y ∈ scope.names, y.2 ≠ .cell) (hkind : scope.kind = .function) (hfr : scope.names.lookup fr = some .local) (hnb : scope.names.lookup nb = some .local)
    (hs : ∀ x cenv, foldedSetIterable i2 cenv x = pure x) (hd : (nb == ("__debug__" : Str)) = false)
    (F : Fr h₀ L s.heap m) (N : News h₀ L s.heap news) (hm : (ax, listOf vs.toArray c) ∈ news) (hz : vs.length < 1000) (h0 : J [] [] news)
    (hJm : ∀ pre ys n, J pre ys n → (ax, listOf vs.toArray c) ∈ n ∧ ys.length ≤ 100 * pre.length)
    (turn : ∀ (g : Heap) pre v post ys n I oI C oC D mC h tk (E' : Value → Shared → Prop), vs = pre ++ v :: post → J pre ys n → LCg.NsObj oC mC → mC fr = some v → Fr h₀ L h m → News h₀ L h (Three I oI C oC D (LCg.lst ys) n) → LCg.Off3 I C D n → ((@Ne Nat I C) ∧ (@Ne Nat I D) ∧ (@Ne Nat C D)) →
      wpAny (model prog w) A (eval i2 (compEnvC scope cl C env))
        (fun x s'' => ∃ l1 vs1 c1 h' tk' oC' mC' n', x = .ref l1 ∧ vs1.length ≤ 100 ∧ s'' = (⟨h', s.gens, s.drawn, tk', s.os⟩ : Shared) ∧ Fr h₀ L h' m ∧ LCg.NsObj oC' mC' ∧ News h₀ L h' (Three I oI C oC' D (LCg.lst ys) n') ∧ LCg.Off3 I C D n' ∧ (l1, listOf vs1.toArray c1) ∈ n' ∧ J (pre ++ [v]) (ys ++ vs1) n') E' (⟨h, s.gens, s.drawn, tk, s.os⟩ : Shared))
    (hQ : ∀ I g, BlockOK prog w A E h₀ L m env (.Name nb p3) [⟨.Name fr p1, i1, [], 0⟩, ⟨.Name nb p2, i2, [], 0⟩] scope cl pos I (fun ys n => J vs ys n) { s with heap := g } → Q (.ref I) { s with heap := g }) :
    wpAny (model prog w) A (pyIter (.ref ax)) Q E s := by
  refine block_open J hcell hkind F N hm h0 (fun I g C D s₃ RR hIL hI₀ hCL hC₀ hDL hD₀ hIC hID hCD hIax M fin => ?_) hQ
  have hkC : (compEnvC scope cl C env).scope.kind = .function := hkind
  have hfrC : (compEnvC scope cl C env).kindOf fr = some .local := lookup_relabel_local hfr
  have hnbC : (compEnvC scope cl C env).kindOf nb = some .local := lookup_relabel_local hnb
  refine loop_two0 (Mid h₀ L m { s with heap := g } I ax C D vs c J) (fun x => hs x _) (fun k s' E' M => ?_) vs.length M
  refine mid_next hh hIL hI₀ hIC hID hIax M ?_ ?_
  · intro h tk pre v post ys mC oI oC n e hk hys hit hoC F₂ heC heI N₂ off hm₂ hJ
    refine wpAny_assign_Name (wpAny_storeName_local hfrC (hoC.ns heC) (fun h₃ hn₃ hs₃ => ?_) (by rw [hkC]; rfl))
    obtain ⟨oC3, heC3, hoC3⟩ := LCg.ns_obj hn₃
    have F3 : Fr h₀ L h₃ m := F₂.change hs₃ hCL hC₀
    have heI3 : h₃.get? I = some oI := hs₃.extBut _ _ hIC heI
    have N3 : News h₀ L h₃ (Three I oI C oC3 D (LCg.lst ys) n) := three_of ⟨heI3, hIL, hI₀⟩ ⟨heC3, hCL, hC₀⟩ fun p hp => by
      refine ⟨hs₃.extBut _ _ ?_ (N₂ p hp).1, (N₂ p hp).2⟩
      rcases List.mem_cons.mp hp with rfl | hp
      · exact Ne.symm hCD
      · exact (off.mem p hp).2.1
    refine wpAny_mono (turn g pre v post ys n I oI C oC3 D _ h₃ _ E' e hJ hoC3 (by simp) F3 N3 off ⟨hIC, hID, hCD⟩) (fun x s₄ h₄ => ?_) fun _ _ e => e
    obtain ⟨l1, vs1, c1, h', tk', oC', mC', n', rfl, hv1, rfl, F', hoC', N', off', hl1, hJ'⟩ := h₄
    obtain ⟨hm', hl'⟩ := hJm _ _ _ hJ'
    have hpz : pre.length + 1 ≤ vs.length := by rw [e, List.length_append, List.length_cons]; omega
    have hyz : ys.length + vs1.length ≤ 100 * (pre.length + 1) := by simpa [List.length_append] using hl'
    have hl1' : h'.IsList l1 vs1.toArray := News.isList N' (.tail _ (.tail _ (.tail _ hl1)))
    have hl1lt : l1 < h'.objs.size := Heap.lt_size (N' _ (.tail _ (.tail _ (.tail _ hl1)))).1
    refine wpAny_pyIter_list hl1' ?_
    generalize hg' : h'.push { cls := .type "list_iterator", data := .fields #[.ref l1, .int 0 0] } = g'
    have up : ∀ b o, h'.get? b = some o → g'.get? b = some o := fun b o e => hg' ▸ Heap.get?_push_of_some _ e
    have hIg : g'.get? h'.objs.size = some { cls := .type "list_iterator", data := .fields #[.ref l1, .int 0 0] } := hg' ▸ Heap.get?_push_size _ rfl
    have it1 : g'.IsListIter h'.objs.size l1 0 := ⟨_, hIg, rfl, rfl⟩
    have lt : ∀ a o, h'.get? a = some o → h'.objs.size ≠ a := fun a o e => Ne.symm (Nat.ne_of_lt (Heap.lt_size e))
    have M' : Mid h₀ L m { s with heap := g } h'.objs.size l1 C D vs1 c1 (fun pre1 ys1 n1 => ys1 = ys ++ pre1 ∧ n1 = (I, oI) :: n') vs1.length { ({ s with heap := g } : Shared) with heap := g', toks := tk' } := by
      refine ⟨g', tk', [], vs1, ys, mC', (I, oI) :: n', rfl, rfl, rfl, by omega, it1, F'.keeps up, (hoC'.ns (N' _ (.tail _ (.head _))).1).keeps up, fun p hp => ?_, LCg.Off3.of fun p hp => ?_, .tail _ hl1, by simp, rfl⟩
      · rcases List.mem_cons.mp hp with rfl | hp
        · exact ⟨up _ _ (N' _ (.tail _ (.tail _ (.head _)))).1, hDL, hD₀⟩
        · rcases List.mem_cons.mp hp with rfl | hp
          · exact ⟨up _ _ (N' _ (.head _)).1, hIL, hI₀⟩
          · exact ⟨up _ _ (N' p (.tail _ (.tail _ (.tail _ hp)))).1, (N' p (.tail _ (.tail _ (.tail _ hp)))).2⟩
      · rcases List.mem_cons.mp hp with rfl | hp
        · exact ⟨Ne.symm (lt _ _ (N' _ (.head _)).1), hIC, hID⟩
        · exact ⟨Ne.symm (lt _ _ (N' p (.tail _ (.tail _ (.tail _ hp)))).1), (off'.mem p hp).2.1, (off'.mem p hp).2.2⟩
    have hI1L : h'.objs.size ≠ L := Ne.symm (Nat.ne_of_lt F'.ns.lt)
    have hI1₀ : h₀.get? h'.objs.size = none := next_is_new F'
    have hI1C : h'.objs.size ≠ C := lt _ _ (N' _ (.tail _ (.head _))).1
    have hI1D : h'.objs.size ≠ D := lt _ _ (N' _ (.tail _ (.tail _ (.head _)))).1
    have inner : codeAny (model prog w) A (.compLoop (.ListComp (.Name nb p3) [⟨.Name fr p1, i1, [], 0⟩, ⟨.Name nb p2, i2, [], 0⟩] scope pos) 1 (.ref h'.objs.size) (.ref D) (compEnvC scope cl C env))
        (fun r s₅ => match r with | .ok _ => ∃ m_1, m_1 < k ∧ Mid h₀ L m { s with heap := g } I ax C D vs c J m_1 s₅ | .error _ => False) { ({ s with heap := g } : Shared) with heap := g', toks := tk' } := by
      refine loop_two1 (Mid h₀ L m { s with heap := g } h'.objs.size l1 C D vs1 c1 (fun pre1 ys1 n1 => ys1 = ys ++ pre1 ∧ n1 = (I, oI) :: n')) (fun k1 s1 E1 M1 => ?_) vs1.length M'
      refine mid_next hh hI1L hI1₀ hI1C hI1D (Nat.ne_of_lt hl1lt) M1 ?_ ?_
      · rintro h2 tk2 pre1 v1 post1 ys1 mC1 oI1 oC1 n1 e1 hk1 hys1 hit1 hoC1 F4 heC1 heI1 N4 off1 hm1 ⟨rfl, rfl⟩
        refine wpAny_assign_Name (wpAny_storeName_local hnbC (hoC1.ns heC1) (fun h5 hn5 hs5 => ?_) (by rw [hkC]; rfl))
        obtain ⟨oC5, heC5, hoC5⟩ := LCg.ns_obj hn5
        have F5 : Fr h₀ L h5 m := F4.change hs5 hCL hC₀
        have heI5 : h5.get? h'.objs.size = some oI1 := hs5.extBut _ _ hI1C heI1
        have N5 : News h₀ L h5 (Three h'.objs.size oI1 C oC5 D (LCg.lst (ys ++ pre1)) ((I, oI) :: n')) := three_of ⟨heI5, hI1L, hI1₀⟩ ⟨heC5, hCL, hC₀⟩ fun p hp => by
          refine ⟨hs5.extBut _ _ ?_ (N4 p hp).1, (N4 p hp).2⟩
          rcases List.mem_cons.mp hp with rfl | hp
          · exact Ne.symm hCD
          · exact (off1.mem p hp).2.1
        refine ldVarK hn5 (v := v1) (by simp) ?_ hkC hnbC hd
        have hp1 : pre1.length + 1 ≤ vs1.length := by rw [e1, List.length_append, List.length_cons]; omega
        exact mid_append hCL hC₀ hDL hD₀ hCD hI1D e1 hk1 (by rw [List.length_append]; omega) F5 N5 hoC5 (fun h e' => iter_same hit1 heI1 e') off1 hm1 ⟨by rw [List.append_assoc], rfl⟩
      · rintro h2 tk2 ys1 mC1 n1 F4 hC4 N4 off1 ⟨rfl, rfl⟩
        refine ⟨post.length, by omega, h2, tk2, pre ++ [v], post, ys ++ vs1, mC1, n', rfl, by rw [e]; simp, rfl, by rw [List.length_append]; omega, ?_, F4, hC4, newsSub N4 fun p hp => ?_, off', hm', hJ'⟩
        · rw [List.length_append, List.length_singleton]
          exact iter_same hit heI (N4 _ (.tail _ (.head _))).1
        · rcases List.mem_cons.mp hp with rfl | hp
          · exact .head _
          · exact .tail _ (.tail _ hp)
    exact start_two1 inner fun E' => wpAny_pyIter_listiter it1 inner
  · intro h tk ys mC n F₂ hC N₂ off hJ
    exact fin h tk mC ys n F₂ hC N₂ off hJ
end
end
section
section
variable {prog : Program} {w : World} {A : Around} {E : Value → Shared → Prop} {s : Shared} {h₀ : Heap} {L : Addr} {m : Str → Option Value} {env : Env} {elt : PySem.Expr} {x : Str} {scope : Scope} {cl : List (Str × Addr)}
/-- what the element of a block leaves: the names, the ledger and new objects tl -/
def EltEnd {δ : Type} (R : Led → Value → δ → Prop) (h₀ : Heap) (L : Addr) (m : Str → Option Value) (s : Shared) (N3 n : Led) (d : δ) (y : Value) (s' : Shared) : Prop :=
  ∃ h' tk' tl, s' = { s with heap := h', toks := tk' } ∧ Fr h₀ L h' m ∧ News h₀ L h' (tl ++ N3) ∧ Above tl N3 ∧ R (tl ++ n) y d
theorem EltEnd.of {δ : Type} {R : Led → Value → δ → Prop} {N3 n tl : Led} {d : δ} {y : Value} {h' : Heap} {tk' : Nat} (F : Fr h₀ L h' m) (N : News h₀ L h' (tl ++ N3)) (hA : Above tl N3) (r : R (tl ++ n) y d) : EltEnd R h₀ L m s N3 n d y { s with heap := h', toks := tk' } := ⟨h', tk', tl, rfl, F, N, hA, r⟩
theorem EltEnd.of0 {δ : Type} {R : Led → Value → δ → Prop} {N3 n : Led} {d : δ} {y : Value} {h' : Heap} {tk' : Nat} (F : Fr h₀ L h' m) (N : News h₀ L h' N3) (r : R n y d) : EltEnd R h₀ L m s N3 n d y { s with heap := h', toks := tk' } := ⟨h', tk', [], rfl, F, N, above_nil, r⟩

def MapJ {δ : Type} (R : Led → Value → δ → Prop) (news : Led) (ds : List δ) (k : Nat) (ys : List Value) (n : Led) : Prop := ∃ tl, n = tl ++ news ∧ Above tl news ∧ AllR R n ys (ds.take k)
theorem MapJ.step {δ : Type} {R : Led → Value → δ → Prop} (mono : ∀ N N' v d, (∀ p ∈ N, p ∈ N') → R N v d → R N' v d) {news : Led} {ds : List δ} {k : Nat} {ys : List Value} {n tl9 : Led} {y : Value} {d : δ} (hJ : MapJ R news ds k ys n) (hd : ds[k]? = some d) (hA : Above tl9 n) (hr : R (tl9 ++ n) y d) :
    MapJ R news ds (k + 1) (ys ++ [y]) (tl9 ++ n) := by
  obtain ⟨tl, rfl, hA', hR⟩ := hJ
  refine ⟨tl9 ++ tl, by rw [List.append_assoc], above_trans hA' hA, ?_⟩
  rw [List.take_add_one, hd]
  exact AllR.snoc (AllR.monoR (fun v d h => mono _ _ v d (fun p hp => inR hp) h) hR) hr
/-- a comprehension over a list of the ledger, item by item -/
theorem comp_map {δ : Type} (R : Led → Value → δ → Prop) (mono : ∀ N N' v d, (∀ p ∈ N, p ∈ N') → R N v d → R N' v d) (ds : List δ) {Q : Value → Shared → Prop} {ax : Addr} {c : Nat} {vs : List Value} {news : Led}
    (hh : A.handled = none) (F : Fr h₀ L s.heap m) (N : News h₀ L s.heap news) (hm : (ax, listOf vs.toArray c) ∈ news) (hz : vs.length < 1000000) (hl : vs.length = ds.length)
    (turn : ∀ (g : Heap) (k : Nat) (v : Value) (d : δ) tl ys I oI C oC D m₂ h tk (E' : Value → Shared → Prop), vs[k]? = some v → ds[k]? = some d → LCg.NsObj oC m₂ → m₂ x = some v → Fr h₀ L h m → News h₀ L h (Three I oI C oC D (LCg.lst ys) (tl ++ news)) → ((@Ne Nat I C) ∧ (@Ne Nat I D) ∧ (@Ne Nat C D)) →
      wpAny (model prog w) A (eval elt (compEnvC scope cl C env)) (EltEnd R h₀ L m s (Three I oI C oC D (LCg.lst ys) (tl ++ news)) (tl ++ news) d) E' (⟨h, s.gens, s.drawn, tk, s.os⟩ : Shared))
    (fin : ∀ (g : Heap) D h tk tl ys, Fr h₀ L h m → News h₀ L h ((D, LCg.lst ys) :: (tl ++ news)) → Above tl news → (∀ p ∈ tl ++ news, p.1 ≠ D) → AllR R (tl ++ news) ys ds → Q (.ref D) (⟨h, s.gens, s.drawn, tk, s.os⟩ : Shared)) :
    LCg.CompSrc prog w A h₀ L m env elt x scope cl (fun s₂ => LCg.FinE h₀ L m s₂ Q) (.ref ax) s := by
  refine comp_list (fun pre ys n => MapJ R news ds pre.length ys n) hh F N hm hz ⟨[], rfl, above_nil, by rw [List.length_nil, List.take_zero]; exact .nil⟩ ?_ ?_ ?_
  · rintro pre ys n ⟨tl, rfl, _, _⟩; exact inR hm
  · intro g pre v post ys n I oI C oC D m₂ h tk E' e hJ hC hx F₂ N₂ off ne
    obtain ⟨tl, hn, hA, hR⟩ := id hJ
    have hv : vs[pre.length]? = some v := by rw [e, List.getElem?_append_right (Nat.le_refl _), Nat.sub_self]; rfl
    have hlt : pre.length < ds.length := by rw [← hl, e, List.length_append, List.length_cons]; omega
    subst hn
    refine wpAny_mono (turn g pre.length v ds[pre.length] tl ys I oI C oC D m₂ h tk E' hv (List.getElem?_eq_getElem hlt) hC hx F₂ N₂ ne) (fun y s₄ h₄ => ?_) fun _ _ e => e
    obtain ⟨h', tk', tl9, rfl, F', N', hA', hr⟩ := h₄
    refine compEnd_of F' N' hA' off ?_ ?_
    · exact Or.inr ⟨_, inR (inR hm), rfl, _, rfl⟩
    · rw [List.length_append, List.length_singleton]
      exact MapJ.step mono hJ (List.getElem?_eq_getElem hlt) (above_sub hA' fun p hp => .tail _ (.tail _ (.tail _ hp))) hr
  · rintro g ys n ⟨tl, rfl, hA, hR⟩ D h tk F' N' o1
    rw [hl, List.take_length] at hR
    exact fin g D h tk tl ys F' N' hA (off1_mem o1) hR
/-- the same, stored under a name -/
theorem comp_mapA {δ : Type} (R : Led → Value → δ → Prop) (mono : ∀ N N' v d, (∀ p ∈ N, p ∈ N') → R N v d → R N' v d) (ds : List δ) {z : Str} {Q : Flow → Shared → Prop} {ax : Addr} {c : Nat} {vs : List Value} {news : Led}
    (hh : A.handled = none) (F : Fr h₀ L s.heap m) (N : News h₀ L s.heap news) (hm : (ax, listOf vs.toArray c) ∈ news) (hz : vs.length < 1000000) (hl : vs.length = ds.length)
    (turn : ∀ (g : Heap) (k : Nat) (v : Value) (d : δ) tl ys I oI C oC D m₂ h tk (E' : Value → Shared → Prop), vs[k]? = some v → ds[k]? = some d → LCg.NsObj oC m₂ → m₂ x = some v → Fr h₀ L h m → News h₀ L h (Three I oI C oC D (LCg.lst ys) (tl ++ news)) → ((@Ne Nat I C) ∧ (@Ne Nat I D) ∧ (@Ne Nat C D)) →
      wpAny (model prog w) A (eval elt (compEnvC scope cl C env)) (EltEnd R h₀ L m s (Three I oI C oC D (LCg.lst ys) (tl ++ news)) (tl ++ news) d) E' (⟨h, s.gens, s.drawn, tk, s.os⟩ : Shared))
    (fin : ∀ (g : Heap) D h tk tl ys, Fr h₀ L h (fun u => if u = z then some (.ref D) else m u) → News h₀ L h ((D, LCg.lst ys) :: (tl ++ news)) → Above tl news → (∀ p ∈ tl ++ news, p.1 ≠ D) → AllR R (tl ++ news) ys ds → Q .next (⟨h, s.gens, s.drawn, tk, s.os⟩ : Shared)) :
    LCg.CompSrc prog w A h₀ L m env elt x scope cl (fun s₂ => LCg.FinA h₀ L m s₂ z Q) (.ref ax) s := by
  refine comp_list (fun pre ys n => MapJ R news ds pre.length ys n) hh F N hm hz ⟨[], rfl, above_nil, by rw [List.length_nil, List.take_zero]; exact .nil⟩ ?_ ?_ ?_
  · rintro pre ys n ⟨tl, rfl, _, _⟩; exact inR hm
  · intro g pre v post ys n I oI C oC D m₂ h tk E' e hJ hC hx F₂ N₂ off ne
    obtain ⟨tl, hn, hA, hR⟩ := id hJ
    have hv : vs[pre.length]? = some v := by rw [e, List.getElem?_append_right (Nat.le_refl _), Nat.sub_self]; rfl
    have hlt : pre.length < ds.length := by rw [← hl, e, List.length_append, List.length_cons]; omega
    subst hn
    refine wpAny_mono (turn g pre.length v ds[pre.length] tl ys I oI C oC D m₂ h tk E' hv (List.getElem?_eq_getElem hlt) hC hx F₂ N₂ ne) (fun y s₄ h₄ => ?_) fun _ _ e => e
    obtain ⟨h', tk', tl9, rfl, F', N', hA', hr⟩ := h₄
    refine compEnd_of F' N' hA' off ?_ ?_
    · exact Or.inr ⟨_, inR (inR hm), rfl, _, rfl⟩
    · rw [List.length_append, List.length_singleton]
      exact MapJ.step mono hJ (List.getElem?_eq_getElem hlt) (above_sub hA' fun p hp => .tail _ (.tail _ (.tail _ hp))) hr
  · rintro g ys n ⟨tl, rfl, hA, hR⟩ D h tk F' N' o1
    rw [hl, List.take_length] at hR
    exact fin g D h tk tl ys F' N' hA (off1_mem o1) hR
theorem AllR.get {δ : Type} {R : Led → Value → δ → Prop} {N : Led} : ∀ {vs : List Value} {ns : List δ} {k : Nat} {v : Value} {d : δ}, AllR R N vs ns → vs[k]? = some v → ns[k]? = some d → R N v d
  | _, _, 0, _, _, .cons h _, e1, e2 => by cases e1; cases e2; exact h
  | _, _, _ + 1, _, _, .cons _ r, e1, e2 => r.get (by simpa using e1) (by simpa using e2)
  | _, _, _, _, _, .nil, e1, _ => by simp at e1
end
end
section
section
variable {prog : Program} {w : World} {A : Around} {E : Value → Shared → Prop} {s : Shared} {h₀ : Heap} {L : Addr} {m : Str → Option Value} {env : Env} {ct elt : PySem.Expr} {x : Str} {scope : Scope} {cl : List (Str × Addr)}
/-- a comprehension whose test holds at every item of a list of the ledger -/
theorem comp_mapT {δ : Type} (R : Led → Value → δ → Prop) (mono : ∀ N N' v d, (∀ p ∈ N, p ∈ N') → R N v d → R N' v d) (ds : List δ) {Q : Value → Shared → Prop} {ax : Addr} {c : Nat} {vs : List Value} {news : Led}
    (hh : A.handled = none) (F : Fr h₀ L s.heap m) (N : News h₀ L s.heap news) (hm : (ax, listOf vs.toArray c) ∈ news) (hz : vs.length < 1000000) (hl : vs.length = ds.length)
    (turn : ∀ (k : Nat) (v : Value) (d : δ) tl ys I oI C oC D m₂ h tk (E' : Value → Shared → Prop), vs[k]? = some v → ds[k]? = some d → LCg.NsObj oC m₂ → m₂ x = some v → Fr h₀ L h m → News h₀ L h (Three I oI C oC D (LCg.lst ys) (tl ++ news)) → ((@Ne Nat I C) ∧ (@Ne Nat I D) ∧ (@Ne Nat C D)) →
      wpAny (model prog w) A (isTrue ct (compEnvC scope cl C env) (eval ct (compEnvC scope cl C env))) (fun ok s' => ok = true ∧
        wpAny (model prog w) A (eval elt (compEnvC scope cl C env)) (EltEnd R h₀ L m s (Three I oI C oC D (LCg.lst ys) (tl ++ news)) (tl ++ news) d) E' s') E' (⟨h, s.gens, s.drawn, tk, s.os⟩ : Shared))
    (fin : ∀ (g : Heap) D h tk tl ys, Fr h₀ L h m → News h₀ L h ((D, LCg.lst ys) :: (tl ++ news)) → Above tl news → (∀ p ∈ tl ++ news, p.1 ≠ D) → AllR R (tl ++ news) ys ds → Q (.ref D) (⟨h, s.gens, s.drawn, tk, s.os⟩ : Shared)) :
    LCt.CompSrcT prog w A h₀ L m env ct elt x scope cl (fun s₂ => LCg.FinE h₀ L m s₂ Q) (.ref ax) s := by
  refine LCt.CompSrcT.ledger hh F N hm (size_line hz) fun g => ?_
  have go : ∀ (post pre : List Value) (ys : List Value) (n : Led), vs = pre ++ post → MapJ R news ds pre.length ys n →
      LCt.CompRestT prog w A h₀ L m env ct elt x scope cl { s with heap := g } (LCg.SrcAt h₀ ax vs.toArray) (fun i v => vs.toArray[i]? = some v) (LCg.FinE h₀ L m { s with heap := g } Q) post.length pre.length ys n := by
    intro post
    induction post with
    | nil =>
      intro pre ys n e hJ
      rw [List.append_nil] at e; subst e
      refine LCt.CompRestT.zero ?_
      obtain ⟨tl, rfl, hA, hR⟩ := hJ
      rw [hl, List.take_length] at hR
      intro D h tk F' N' o1
      exact fin g D h tk tl ys F' N' hA (off1_mem o1) hR
    | cons v r ih =>
      intro pre ys n e hJ
      obtain ⟨tl, hn, hA, hR⟩ := id hJ
      have hv : vs[pre.length]? = some v := by rw [e, List.getElem?_append_right (Nat.le_refl _), Nat.sub_self]; rfl
      have hlt : pre.length < ds.length := by rw [← hl, e, List.length_append, List.length_cons]; omega
      subst hn
      refine LCt.CompRestT.succ fun v' I oI C oC D m₂ h tk E' hP hC hx F₂ N₂ off ne => ?_
      have hv' : v' = v := by
        have hP' : vs[pre.length]? = some v' := by simpa using hP
        rw [hv] at hP'; exact (Option.some.inj hP').symm
      subst hv'
      refine wpAny_mono (turn pre.length v' ds[pre.length] tl ys I oI C oC D m₂ h tk E' hv (List.getElem?_eq_getElem hlt) hC hx F₂ N₂ ne) (fun ok s₄ h₄ => ?_) fun _ _ e => e
      obtain ⟨rfl, h₄⟩ := h₄
      simp only [if_true]
      refine wpAny_mono h₄ (fun y s₅ h₅ => ?_) fun _ _ e => e
      obtain ⟨h', tk', tl9, rfl, F', N', hA', hr⟩ := h₅
      refine compEnd_of F' N' hA' off (Or.inr ⟨_, inR (inR hm), rfl, _, rfl⟩) ?_
      have := ih (pre ++ [v']) (ys ++ [y]) (tl9 ++ (tl ++ news)) (by rw [e]; simp) (by
        rw [List.length_append, List.length_singleton]
        exact MapJ.step mono hJ (List.getElem?_eq_getElem hlt) (above_sub hA' fun p hp => .tail _ (.tail _ (.tail _ hp))) hr)
      rw [List.length_append, List.length_singleton] at this
      exact this
  have := go vs [] [] news rfl ⟨[], rfl, above_nil, by rw [List.length_nil, List.take_zero]; exact .nil⟩
  rw [List.size_toArray]
  exact this
end
end
section
abbrev tapeO (c : Addr) (k : Int) (tk : Tok) (n : Nat) : Obj := listOf #[.ref c, .int k tk] n

set_option maxHeartbeats 4000000 in
theorem draw_tell0 (w : World) (t c : Addr) (k lim : Int) (tk tl : Tok) (nt nc : Nat) (vs : List Value) (ns : List Int) (I : Led)
    (ht : ∀ p ∈ I, p.1 ≠ t) (hc : (c, listOf vs.toArray nc) ∈ I) (hv : IntsAre vs ns) (h1 : 0 < ns.length) (h2 : ns.length ≤ 40) (hk : 0 ≤ k) (hk2 : k ≤ 100) (hl : 0 < lim) (hl2 : lim ≤ 100) :
    Tell w 507 [.ref t, .int lim tl] 2 ((t, tapeO c k tk nt) :: I)
      (fun r N' => ∃ d td tk', r = .int d td ∧ 0 ≤ d ∧ d < lim ∧ N' = (t, tapeO c (k+1) tk' nt) :: I) := by
  unfold Tell
  k_fill
  intro loose mean mg mb dp un gd cn cs a ccd cl outer A₀ base h₀ L m s Q E B F X N T hcs hd hu hret
  have hsz : vs.toArray.size = ns.length := by rw [List.size_toArray]; exact hv.length
  have hlen : ns.length < 2 ^ 62 := by omega
  refine wpAny_call ?_
  k_dflt ktr_enter
  k_steps
  refine hret _ _ _ _ (by assumption) (by assumption) ⟨_, _, _, rfl, ?_, ?_, rfl⟩
  · exact Int.fmod_nonneg_of_pos _ hl
  · exact Int.fmod_lt_of_pos _ hl

theorem draw_tell (w : World) {t c : Addr} {k lim : Int} {tk tl : Tok} {nt nc : Nat} {vs : List Value} {ns : List Int} {N : Led} {N' : Tok → Led}
    (U : ∀ tk', Upd t (tapeO c k tk nt) (tapeO c (k+1) tk' nt) N (N' tk')) (hc : (c, listOf vs.toArray nc) ∈ N) (hv : IntsAre vs ns) (hct : c ≠ t) (h1 : 0 < ns.length) (h2 : ns.length ≤ 40) (hk : 0 ≤ k) (hk2 : k ≤ 100) (hl : 0 < lim) (hl2 : lim ≤ 100) :
    Tell w 507 [.ref t, .int lim tl] 2 N
      (fun r N₁ => ∃ d td tk', r = .int d td ∧ 0 ≤ d ∧ d < lim ∧ N₁ = N' tk') := by
  have C := draw_tell0 w t c k lim tk tl nt nc vs ns (rest t N) rest_ne (mem_rest hc hct) hv h1 h2 hk hk2 hl hl2
  intro loose mean mg mb dp un gd cn cs a ccd cl outer A₀ base h₀ L m s Q E B F X Nw T hcs hd hu hret
  refine C.use B F X (newsFront Nw (updHas (U 0))) T hcs hd hu ?_
  rintro r N₁ h' tk' F' Nw' ⟨d, td, tk₁, rfl, h0, hlt, rfl⟩
  refine hret _ (N' tk₁) _ _ F' (newsSub Nw' fun p hp => ?_) ⟨d, td, tk₁, rfl, h0, hlt, rfl⟩
  rcases updMem (U tk₁) p hp with rfl | ⟨a, b⟩
  · exact .head _
  · exact .tail _ (mem_rest a b)
end
local macro_rules | `(tactic| walk_at "call ref") => `(tactic| (k_here; (with_reducible show wpAny _ _ (call (Value.ref 507) _) _ _ _); k_dflt (refine' Tell.use (draw_tell _ ?mU ?mc ?mv ?mn ?m1 ?m2 ?m3 ?m4 ?m5 ?m6) ?k1 ?k2 ?k3 ?k4 ?k5 ?kK ?kd ?ku ?_; (case k1 => k_asm); (case k2 => k_asm); (case k3 => k_asm); (case k4 => k_asm); (case k5 => k_asm); (case kK => first | exact rfl | assumption); (case mU => intro tk9; k_upd); (case mc => k_mem); (case mv => assumption); (case mn => assumption); (case m1 => assumption); (case m2 => assumption); (case m3 => omega); (case m4 => omega); (case m5 => decide); (case m6 => decide); (case kd => ktr_room); (case ku => ktr_units); intro r9 N9 h9 tk9 F9 M9 ho9; obtain ⟨d9, td9, tk9', er9, hd9, hd9', eN9⟩ := ho9; subst er9; subst eN9; (try dsimp only); (try k_fold))))
section
abbrev Four := Int × Int × Int × Int
def fourD (f : Four) : Dat := .tuple [.int f.1, .int f.2.1, .int f.2.2.1, .int f.2.2.2]
theorem fourAt {N : Led} {D : Addr} {a b c d : Int} {t1 t2 t3 t4 : Tok} {n : Nat} (h : (D, ({ cls := .type "tuple", data := .seq #[.int a t1, .int b t2, .int c t3, .int d t4] n } : Obj)) ∈ N) : DatIn N (.ref D) (fourD (a, b, c, d)) :=
  DatIn.tuple (vs := [.int a t1, .int b t2, .int c t3, .int d t4]) h (.cons (.int _ _) (.cons (.int _ _) (.cons (.int _ _) (.cons (.int _ _) .nil))))
theorem newsSwap {h₀ h : Heap} {L : Addr} {q r : Addr × Obj} {I : Led} (x : News h₀ L h (q :: r :: I)) : News h₀ L h (r :: ([q] ++ I)) := newsSub x fun p hp => by
  rcases List.mem_cons.mp hp with rfl | hp
  · exact .tail _ (.head _)
  · rcases List.mem_append.mp hp with hp | hp
    · rw [List.mem_singleton.mp hp]; exact .head _
    · exact .tail _ (.tail _ hp)
def Small (f : Four) : Prop := -200 ≤ f.1 ∧ f.1 ≤ 200 ∧ -200 ≤ f.2.1 ∧ f.2.1 ≤ 200 ∧ -200 ≤ f.2.2.1 ∧ f.2.2.1 ≤ 200 ∧ -200 ≤ f.2.2.2 ∧ f.2.2.2 ≤ 200

set_option maxHeartbeats 4000000 in
theorem four_tell (w : World) (t c : Addr) (k : Int) (tk : Tok) (nt nc : Nat) (vs : List Value) (ns : List Int) (I : Led)
    (ht : ∀ p ∈ I, p.1 ≠ t) (hc : (c, listOf vs.toArray nc) ∈ I) (hct : c ≠ t) (hv : IntsAre vs ns) (h1 : 0 < ns.length) (h2 : ns.length ≤ 40) (hk : 0 ≤ k) (hk2 : k ≤ 90) :
    Tell w 514 [.ref t] 4 ((t, tapeO c k tk nt) :: I)
      (fun r N' => ∃ f k' tk' tl, DatIn (tl ++ I) r (fourD f) ∧ Small f ∧ 0 ≤ k' ∧ k' ≤ k + 4 ∧ N' = (t, tapeO c k' tk' nt) :: (tl ++ I) ∧ ∀ p ∈ tl ++ I, p.1 ≠ t) := by
  unfold Tell
  k_fill
  intro loose mean mg mb dp un gd cn cs a ccd cl outer A₀ base h₀ L m s Q E B F X N T hcs hd hu hret
  refine wpAny_call ?_
  k_dflt ktr_enter
  k_steps
  rename_i l1 kF kN Tc kX
  refine hret _ _ _ _ kF (newsSwap kN) ⟨_, _, _, [_], fourAt (.head _), ?_, ?_, ?_, rfl, ?_⟩
  · refine ⟨?_, ?_, ?_, ?_, ?_, ?_, ?_, ?_⟩ <;> dsimp only <;> omega
  · omega
  · omega
  · intro p hp
    rcases List.mem_append.mp hp with hp | hp
    · rw [List.mem_singleton.mp hp]; exact Ne.symm (Nat.ne_of_lt l1.1)
    · exact ht p hp
end
section
/-- the ledger bears at v a Decimal n with no places -/
def DecAt (N : Led) (v : Value) (n : Int) : Prop :=
  ∃ x dx t1 t2 u1 u2 g1 g2, v = .ref x ∧ (x, instObj 155 dx) ∈ N ∧ (dx, dictOf [⟨g1, .str (Str.ofString "top") u1, .int n t1⟩, ⟨g2, .str (Str.ofString "places") u2, .int 0 t2⟩] 2) ∈ N
theorem DecAt.mono {N N' : Led} {v : Value} {n : Int} (s : ∀ p ∈ N, p ∈ N') : DecAt N v n → DecAt N' v n
  | ⟨x, dx, t1, t2, u1, u2, g1, g2, e, a, b⟩ => ⟨x, dx, t1, t2, u1, u2, g1, g2, e, s _ a, s _ b⟩

set_option maxHeartbeats 4000000 in
theorem dec_new (w : World) (n : Int) (t t' : Tok) (N : Led) :
    Tell w 155 [.int n t, .int 0 t'] 3 N (fun r N' => ∃ tl, DecAt tl r n ∧ N' = tl ++ N ∧ Above tl N) := by
  unfold Tell
  k_fill
  intro loose mean mg mb dp un gd cn cs a ccd cl outer A₀ base h₀ L m s Q E B F X N T hcs hd hu hret
  k_dflt (refine' call_cls ?k1 ?k2 ?k3 ?k4 ?k5 ?k6 ?_; (case k1 => k_asm); (case k2 => k_asm); (case k3 => k_asm); (case k4 => k_is); (case k5 => k_is); (case k6 => k_is); k_whole; intro x' d' h' F' N' l1 l2; (try k_lt l1); (try k_lt2 l2); (try k_sweep))
  k_dflt ktr_enter
  k_steps
  rename_i kF kN Tc kX
  rename (MarkAd _ _ _ _) => M
  rename (_ ≤ (0 : Int)) => hle
  rename (min 0 0 ≤ _) => hge
  have e : _ = (0 : Int) := Int.le_antisymm hle hge
  subst e
  refine hret _ _ _ _ kF kN ⟨[_, _], ⟨_, _, _, _, _, _, _, _, rfl, .head _, .tail _ (.head _)⟩, rfl, above_two (allLt_of l1) l2⟩
end
local macro_rules | `(tactic| walk_at "call ref") => `(tactic| (k_here; (with_reducible show wpAny _ _ (call (Value.ref 155) [Value.int _ _, Value.int _ _]) _ _ _); k_dflt (refine' Tell.use (dec_new _ _ _ _ _) ?k1 ?k2 ?k3 ?k4 ?k5 ?kK ?kd ?ku ?_; (case k1 => k_asm); (case k2 => k_asm); (case k3 => k_asm); (case k4 => k_asm); (case k5 => k_asm); (case kK => first | exact rfl | assumption); (case kd => ktr_room); (case ku => ktr_units); intro r9 N9 h9 tk9 F9 M9 ho9; obtain ⟨tl9, hD9, eN9, hA9⟩ := ho9; subst eN9; (try dsimp only); (try k_fold))))
local macro_rules | `(tactic| ktr_rel) => `(tactic| (refine DecAt.mono ?kms (by assumption); (intro p9 hp9; k_mem)))
local macro_rules | `(tactic| walk_at "ite") => `(tactic| (k_here; first | refine ite_pos (by ((try simp only [beq_iff_eq, bne_iff_ne, ne_eq, decide_eq_true_eq, List.length_cons, List.length_append, List.length_nil]); omega)) ?_ | refine ite_neg (by ((try simp only [beq_iff_eq, bne_iff_ne, ne_eq, decide_eq_true_eq, List.length_cons, List.length_append, List.length_nil]); omega)) ?_))
section
set_option maxHeartbeats 4000000 in
theorem decof_tell (w : World) {a : Int} {v1 : Value} {N : Led} (h1 : DecAt N v1 a) :
    Tell w 180 [v1] 1 N (fun r N' => r = v1 ∧ N' = N) := by
  unfold Tell
  k_fill
  intro loose mean mg mb dp un gd cn cs a ccd cl outer A₀ base h₀ L m s Q E B F X N T hcs hd hu hret
  obtain ⟨x1, d1, p1, p2, p3, p4, p5, p6, rfl, hx1, hd1⟩ := h1
  refine wpAny_call ?_
  k_dflt ktr_enter
  k_steps
  exact hret _ _ _ _ (by assumption) (by assumption) ⟨rfl, rfl⟩
theorem pow_ten0 {prog : Program} {w : World} {A : Around} {E : Value → Shared → Prop} {s : Shared} {n : Int} {t u : Tok} {Q : Value → Shared → Prop} (e : n = 0) (h : Q (.int 1 s.toks) { s with toks := s.toks + 1 }) :
    wpAny (model prog w) A (binaryOp .Pow (.int 10 t) (.int n u)) Q E s := by
  subst e; exact pow_int_small (by decide) (by decide) (by decide) h
theorem mul_one0 {prog : Program} {w : World} {A : Around} {E : Value → Shared → Prop} {s : Shared} {a : Int} {t u : Tok} {Q : Value → Shared → Prop}
    (h : ∀ a', a' = a → wpAny (model prog w) A (binaryOp .Mult (.int a t) (.int 1 u)) Q E s) : wpAny (model prog w) A (binaryOp .Mult (.int a t) (.int 1 u)) Q E s := h a rfl
end
local macro_rules | `(tactic| walk_at "call ref") => `(tactic| (k_here; (with_reducible show wpAny _ _ (call (Value.ref 180) [_]) _ _ _); k_dflt (refine' Tell.use (decof_tell _ ?h1) ?k1 ?k2 ?k3 ?k4 ?k5 ?kK ?kd ?ku ?_; (case k1 => k_asm); (case k2 => k_asm); (case k3 => k_asm); (case k4 => k_asm); (case k5 => k_asm); (case kK => first | exact rfl | assumption); (case h1 => ktr_rel); (case kd => ktr_room); (case ku => ktr_units); intro r9 N9 h9 tk9 F9 M9 ho9; obtain ⟨er9, eN9⟩ := ho9; (replace er9 := Eq.symm er9); (replace eN9 := Eq.symm eN9); subst er9; subst eN9; (try dsimp only); (try k_fold))))
local macro_rules | `(tactic| walk_at "binaryOp Pow int int") => `(tactic| (k_here; (with_reducible show wpAny _ _ (binaryOp Operator.Pow (Value.int 10 _) (Value.int _ _)) _ _ _); (refine pow_ten0 (by decide) ?_)))
section
set_option maxHeartbeats 4000000 in
theorem scale_tell (w : World) {a b : Int} {v1 v2 : Value} {N : Led} (h1 : DecAt N v1 a) (h2 : DecAt N v2 b) :
    Tell w 187 [v1, v2] 3 N (fun r N' => ∃ D t1 t2 t3 n, r = .ref D ∧ N' = (D, ({ cls := .type "tuple", data := .seq #[.int a t1, .int b t2, .int 0 t3] n } : Obj)) :: N ∧ AllLt D N) := by
  unfold Tell
  k_fill
  intro loose mean mg mb dp un gd cn cs a ccd cl outer A₀ base h₀ L m s Q E B F X N T hcs hd hu hret
  obtain ⟨x1, d1, p1, p2, p3, p4, p5, p6, rfl, hx1, hd1⟩ := id h1
  obtain ⟨x2, d2, q1, q2, q3, q4, q5, q6, rfl, hx2, hd2⟩ := id h2
  refine wpAny_call ?_
  k_dflt ktr_enter
  k_steps
  rename_i l1 kF kN Tc kX
  simp only [Int.mul_one] at kN
  exact hret _ _ _ _ kF kN ⟨_, _, _, _, _, rfl, rfl, allLt_of l1⟩
end
local macro_rules | `(tactic| walk_at "call ref") => `(tactic| (k_here; (with_reducible show wpAny _ _ (call (Value.ref 187) [_, _]) _ _ _); k_dflt (refine' Tell.use (scale_tell _ ?h1 ?h2) ?k1 ?k2 ?k3 ?k4 ?k5 ?kK ?kd ?ku ?_; (case k1 => k_asm); (case k2 => k_asm); (case k3 => k_asm); (case k4 => k_asm); (case k5 => k_asm); (case kK => first | exact rfl | assumption); (case h1 => ktr_rel); (case h2 => ktr_rel); (case kd => ktr_room); (case ku => ktr_units); intro r9 N9 h9 tk9 F9 M9 ho9; obtain ⟨D9, t91, t92, t93, n9, er9, eN9, hA9⟩ := ho9; subst er9; subst eN9; (replace hA9 := ktn_ltOf hA9); (try dsimp only); (try k_fold))))
section

def sgn (n : Int) : Int := if n = 0 then 0 else if 0 < n then 1 else -1
set_option maxHeartbeats 4000000 in
theorem sign_tell (w : World) (n : Int) (t : Tok) (N : Led) : Tell w 173 [.int n t] 1 N (fun r N' => ∃ t', r = .int (sgn n) t' ∧ N' = N) := by
  unfold Tell
  k_fill
  intro loose mean mg mb dp un gd cn cs a0 ccd cl outer A₀ base h₀ L m s Q E B F X Nw T hcs hd hu hret
  refine wpAny_call ?_
  k_dflt ktr_enter
  k_steps
  all_goals (rename_i kF kN Tc kX; refine hret _ _ _ _ kF kN ⟨_, congrArg (Value.int · _) ?_, rfl⟩; unfold sgn; (repeat' split) <;> simp_all <;> omega)
set_option maxHeartbeats 4000000 in
theorem plus_tell (w : World) {a b : Int} {v1 v2 : Value} {N : Led} (h1 : DecAt N v1 a) (h2 : DecAt N v2 b) :
    Tell w 82 [v1, v2] 5 N (fun r N' => ∃ tl, DecAt tl r (a + b) ∧ N' = tl ++ N ∧ Above tl N) := by
  unfold Tell
  k_fill
  intro loose mean mg mb dp un gd cn cs a0 ccd cl outer A₀ base h₀ L m s Q E B F X Nw T hcs hd hu hret
  refine wpAny_call ?_
  k_dflt ktr_enter
  k_steps
  rename_i kF kN Tc kX
  rename Above _ _ => hA
  rename DecAt _ _ (a + b) => hD
  rename (∀ p ∈ N, p.1 < _) => hq
  rw [app_cons] at kN
  exact hret _ _ _ _ kF kN ⟨_, hD.mono fun _ h => inL h, rfl, above_trans (above_lt hq) hA⟩
end
local macro_rules | `(tactic| walk_at "call ref") => `(tactic| (k_here; (with_reducible show wpAny _ _ (call (Value.ref 173) [_]) _ _ _); k_dflt (refine' Tell.use (sign_tell _ _ _ _) ?k1 ?k2 ?k3 ?k4 ?k5 ?kK ?kd ?ku ?_; (case k1 => k_asm); (case k2 => k_asm); (case k3 => k_asm); (case k4 => k_asm); (case k5 => k_asm); (case kK => first | exact rfl | assumption); (case kd => ktr_room); (case ku => ktr_units); intro r9 N9 h9 tk9 F9 M9 ho9; obtain ⟨t9, er9, eN9⟩ := ho9; subst er9; subst eN9; (try dsimp only); (try k_fold))))
local macro_rules | `(tactic| walk_at "call ref") => `(tactic| (k_here; (with_reducible show wpAny _ _ (call (Value.ref 82) [_, _]) _ _ _); k_dflt (refine' Tell.use (plus_tell _ ?h1 ?h2) ?k1 ?k2 ?k3 ?k4 ?k5 ?kK ?kd ?ku ?_; (case k1 => k_asm); (case k2 => k_asm); (case k3 => k_asm); (case k4 => k_asm); (case k5 => k_asm); (case kK => first | exact rfl | assumption); (case h1 => ktr_rel); (case h2 => ktr_rel); (case kd => ktr_room); (case ku => ktr_units); intro r9 N9 h9 tk9 F9 M9 ho9; obtain ⟨tl9, hD9, eN9, hA9⟩ := ho9; subst eN9; (try dsimp only); (try k_fold))))
section

set_option maxHeartbeats 4000000 in
theorem cmp_tell (w : World) {a b : Int} {v1 v2 : Value} {N : Led} (h1 : DecAt N v1 a) (h2 : DecAt N v2 b) :
    Tell w 110 [v1, v2] 5 N (fun r N' => ∃ t tl, r = .int (sgn (a - b)) t ∧ N' = tl ++ N ∧ Above tl N) := by
  unfold Tell
  k_fill
  intro loose mean mg mb dp un gd cn cs a0 ccd cl outer A₀ base h₀ L m s Q E B F X Nw T hcs hd hu hret
  refine wpAny_call ?_
  k_dflt ktr_enter
  k_steps
  rename_i kF kN Tc kX
  rename (∀ p ∈ N, p.1 < _) => hq
  exact hret _ _ _ _ kF kN ⟨_, [_], rfl, rfl, above_lt hq⟩
end
local macro_rules | `(tactic| walk_at "call ref") => `(tactic| (k_here; (with_reducible show wpAny _ _ (call (Value.ref 110) [_, _]) _ _ _); k_dflt (refine' Tell.use (cmp_tell _ ?h1 ?h2) ?k1 ?k2 ?k3 ?k4 ?k5 ?kK ?kd ?ku ?_; (case k1 => k_asm); (case k2 => k_asm); (case k3 => k_asm); (case k4 => k_asm); (case k5 => k_asm); (case kK => first | exact rfl | assumption); (case h1 => ktr_rel); (case h2 => ktr_rel); (case kd => ktr_room); (case ku => ktr_units); intro r9 N9 h9 tk9 F9 M9 ho9; obtain ⟨t9, tl9, er9, eN9, hA9⟩ := ho9; subst er9; subst eN9; (try dsimp only); (try k_fold))))
section

/-- the ledger bears the Decimals ns at vs -/
abbrev DecAll (N : Led) : List Value → List Int → Prop := AllR DecAt N
theorem DecAll.mono {N N' : Led} (s : ∀ p ∈ N, p ∈ N') {vs : List Value} {ns : List Int} (h : DecAll N vs ns) : DecAll N' vs ns := AllR.monoR (fun _ _ h => h.mono s) h
theorem DecAll.length {N : Led} {vs : List Value} {ns : List Int} (h : DecAll N vs ns) : vs.length = ns.length := AllR.len h
theorem DecAll.at {N : Led} {pre post : List Value} {v : Value} {ns : List Int} (h : DecAll N (pre ++ v :: post) ns) : ∃ n, DecAt N v n ∧ ns[pre.length]? = some n := AllR.here h
/-- the least so far -/
def minTo (n0 : Int) (ns : List Int) (k : Nat) : Int := (ns.take k).foldl min n0
theorem minTo_succ {n0 n : Int} {ns : List Int} {k : Nat} (h : ns[k]? = some n) : minTo n0 ns (k + 1) = min (minTo n0 ns k) n := by
  unfold minTo
  rw [List.take_add_one, h]; simp
theorem minTo_all {n0 : Int} {ns : List Int} {k : Nat} (h : k = ns.length) : minTo n0 ns k = ns.foldl min n0 := by
  unfold minTo; rw [h, List.take_length]
theorem sgn_pos {n : Int} (h : sgn n > 0) : 0 < n := by unfold sgn at h; split at h <;> (try split at h) <;> omega
theorem sgn_neg {n : Int} (h : ¬ sgn n > 0) : ¬ 0 < n := by unfold sgn at h; split at h <;> (try split at h) <;> omega
def BestIs (N0 N1 : Led) (best : Int) (m : Str → Option Value) (n : Led) : Prop :=
  ∃ (b : Value) (mr : Str → Option Value) (tl : Led), m = (fun y => if y = Str.ofString "best" then some b else mr y) ∧ DecAt N0 b best ∧ n = tl ++ N1 ∧ Above tl N1

theorem BestIs.of {N0 R tl tl9 : Led} {b : Value} {best : Int} {m mr : Str → Option Value} (e : m = fun y => if y = Str.ofString "best" then some b else mr y) (hd : DecAt N0 b best) (hA : Above tl R) {I : Addr} {it : Obj} (h9 : Above tl9 ((I, it) :: (tl ++ R))) :
    BestIs N0 R best m (tl9 ++ (tl ++ R)) :=
  ⟨b, mr, tl9 ++ tl, e, hd, by rw [List.append_assoc], above_trans hA (above_sub h9 fun p hp => .tail _ hp)⟩
theorem map_swap {a b : Str} (h : a ≠ b) {u v : Value} {mr : Str → Option Value} : (fun y => if y = a then some u else if y = b then some v else mr y) = fun y => if y = b then some v else (fun z => if z = a then some u else mr z) y := by
  funext y
  by_cases h1 : y = a
  · subst h1; simp [h]
  · simp [h1]

set_option maxHeartbeats 4000000 in
theorem least_tell (w : World) {l : Addr} {c : Nat} {ws : List Value} {n0 : Int} {ns : List Int} {N0 N : Led} (hl : (l, listOf ws.toArray c) ∈ N) (hw : DecAll N0 ws (n0 :: ns)) (hN0 : ∀ p ∈ N0, p ∈ N) (hz : ns.length < 100) :
    Tell w 194 [.ref l] 8 N (fun r N' => ∃ tl, DecAt N0 r (ns.foldl min n0) ∧ N' = tl ++ N ∧ Above tl N) := by
  unfold Tell
  k_fill
  intro loose mean mg mb dp un gd cn cs a0 ccd cl outer A₀ base h₀ L m s Q E B F X Nw T hcs hd hu hret
  rcases hw with _ | @⟨v0, vs, _, _, h0, h1⟩
  have hlen := h1.len
  refine wpAny_call ?_
  have h0N : DecAt N v0 n0 := h0.mono hN0
  k_dflt ktr_enter
  walk
  refine For_turns (by k_asm) ?_
  walk
  rename_i D' h' F' N' l1
  have N1 : News _ _ h' ((D', listOf vs.toArray 0) :: N) := N'
  refine for_list (fun pre m n => BestIs N0 ((D', listOf vs.toArray 0) :: N) (minTo n0 ns pre.length) m n) rfl F' N1 (.head _) ⟨_, _, [], rfl, h0, rfl, above_nil⟩ ?_ ?_ ?_
  · rintro pre m n ⟨b, mr, tl, rfl, hb, rfl, hA⟩
    exact inR (.head _)
  · rintro I pre v post m n it h tk hI e ⟨b, mr, tl, rfl, hb, rfl, hA⟩ hit F2 N2 hoff
    obtain ⟨nv, hv, hnv⟩ := (show DecAll N0 (pre ++ v :: post) ns from e ▸ h1).at
    have hv' : DecAt ((I, it) :: (tl ++ (D', listOf vs.toArray 0) :: N)) v nv := hv.mono fun p hp => .tail _ (inR (.tail _ (hN0 p hp)))
    have hb' : DecAt ((I, it) :: (tl ++ (D', listOf vs.toArray 0) :: N)) b (minTo n0 ns pre.length) := hb.mono fun p hp => .tail _ (inR (.tail _ (hN0 p hp)))
    obtain ⟨x, dx, y1, y2, y3, y4, y5, y6, rfl, hx, hdx⟩ := id hb'
    walk
    · rename Above _ ((I, it) :: _) => hA9
      rename (0 < sgn _) => hs
      rename Fr _ _ _ _ => F3
      rename News _ _ _ _ => N3
      have e : minTo n0 ns (pre ++ [v]).length = nv := by
        rw [List.length_append, List.length_singleton, minTo_succ hnv]; have := sgn_pos hs; omega
      rw [e]
      exact turn_next F3 N3 hA9 hoff (BestIs.of rfl hv hA hA9)
    · rename Above _ ((I, it) :: _) => hA9
      rename (¬ 0 < sgn _) => hs
      rename Fr _ _ _ _ => F3
      rename News _ _ _ _ => N3
      have e : minTo n0 ns (pre ++ [v]).length = minTo n0 ns pre.length := by
        rw [List.length_append, List.length_singleton, minTo_succ hnv]; have := sgn_neg hs; omega
      rw [e]
      exact turn_next F3 N3 hA9 hoff (BestIs.of (map_swap (by decide)) hb hA hA9)
  · rintro m n h tk ⟨b, mr, tl, rfl, hb, rfl, hA⟩ F2 N2
    rw [minTo_all hlen] at hb
    walk
    rename_i kF kN Tc kX
    rw [app_cons] at kN
    exact hret _ _ _ _ kF kN ⟨_, hb, rfl, above_trans (above_lt l1) hA⟩
end
section
/-- the greatest so far -/
def maxTo (n0 : Int) (ns : List Int) (k : Nat) : Int := (ns.take k).foldl max n0
theorem maxTo_succ {n0 n : Int} {ns : List Int} {k : Nat} (h : ns[k]? = some n) : maxTo n0 ns (k + 1) = max (maxTo n0 ns k) n := by
  unfold maxTo
  rw [List.take_add_one, h]; simp
theorem maxTo_all {n0 : Int} {ns : List Int} {k : Nat} (h : k = ns.length) : maxTo n0 ns k = ns.foldl max n0 := by
  unfold maxTo; rw [h, List.take_length]
theorem sgn_lt {n : Int} (h : sgn n < 0) : n < 0 := by unfold sgn at h; split at h <;> (try split at h) <;> omega
theorem sgn_ge {n : Int} (h : ¬ sgn n < 0) : ¬ n < 0 := by unfold sgn at h; split at h <;> (try split at h) <;> omega
set_option maxHeartbeats 4000000 in
theorem greatest_tell (w : World) {l : Addr} {c : Nat} {ws : List Value} {n0 : Int} {ns : List Int} {N0 N : Led} (hl : (l, listOf ws.toArray c) ∈ N) (hw : DecAll N0 ws (n0 :: ns)) (hN0 : ∀ p ∈ N0, p ∈ N) (hz : ns.length < 100) :
    Tell w 201 [.ref l] 8 N (fun r N' => ∃ tl, DecAt N0 r (ns.foldl max n0) ∧ N' = tl ++ N ∧ Above tl N) := by
  unfold Tell
  k_fill
  intro loose mean mg mb dp un gd cn cs a0 ccd cl outer A₀ base h₀ L m s Q E B F X Nw T hcs hd hu hret
  rcases hw with _ | @⟨v0, vs, _, _, h0, h1⟩
  have hlen := h1.len
  refine wpAny_call ?_
  have h0N : DecAt N v0 n0 := h0.mono hN0
  k_dflt ktr_enter
  walk
  refine For_turns (by k_asm) ?_
  walk
  rename_i D' h' F' N' l1
  have N1 : News _ _ h' ((D', listOf vs.toArray 0) :: N) := N'
  refine for_list (fun pre m n => BestIs N0 ((D', listOf vs.toArray 0) :: N) (maxTo n0 ns pre.length) m n) rfl F' N1 (.head _) ⟨_, _, [], rfl, h0, rfl, above_nil⟩ ?_ ?_ ?_
  · rintro pre m n ⟨b, mr, tl, rfl, hb, rfl, hA⟩
    exact inR (.head _)
  · rintro I pre v post m n it h tk hI e ⟨b, mr, tl, rfl, hb, rfl, hA⟩ hit F2 N2 hoff
    obtain ⟨nv, hv, hnv⟩ := (show DecAll N0 (pre ++ v :: post) ns from e ▸ h1).at
    have hv' : DecAt ((I, it) :: (tl ++ (D', listOf vs.toArray 0) :: N)) v nv := hv.mono fun p hp => .tail _ (inR (.tail _ (hN0 p hp)))
    have hb' : DecAt ((I, it) :: (tl ++ (D', listOf vs.toArray 0) :: N)) b (maxTo n0 ns pre.length) := hb.mono fun p hp => .tail _ (inR (.tail _ (hN0 p hp)))
    obtain ⟨x, dx, y1, y2, y3, y4, y5, y6, rfl, hx, hdx⟩ := id hb'
    walk
    · rename Above _ ((I, it) :: _) => hA9
      rename (sgn _ < 0) => hs
      rename Fr _ _ _ _ => F3
      rename News _ _ _ _ => N3
      have e : maxTo n0 ns (pre ++ [v]).length = nv := by
        rw [List.length_append, List.length_singleton, maxTo_succ hnv]; have := sgn_lt hs; omega
      rw [e]
      exact turn_next F3 N3 hA9 hoff (BestIs.of rfl hv hA hA9)
    · rename Above _ ((I, it) :: _) => hA9
      rename (¬ sgn _ < 0) => hs
      rename Fr _ _ _ _ => F3
      rename News _ _ _ _ => N3
      have e : maxTo n0 ns (pre ++ [v]).length = maxTo n0 ns pre.length := by
        rw [List.length_append, List.length_singleton, maxTo_succ hnv]; have := sgn_ge hs; omega
      rw [e]
      exact turn_next F3 N3 hA9 hoff (BestIs.of (map_swap (by decide)) hb hA hA9)
  · rintro m n h tk ⟨b, mr, tl, rfl, hb, rfl, hA⟩ F2 N2
    rw [maxTo_all hlen] at hb
    walk
    rename_i kF kN Tc kX
    rw [app_cons] at kN
    exact hret _ _ _ _ kF kN ⟨_, hb, rfl, above_trans (above_lt l1) hA⟩
end
local macro_rules | `(tactic| walk_at "call ref") => `(tactic| (k_here; (with_reducible show wpAny _ _ (call (Value.ref 194) [_]) _ _ _); k_dflt (refine' Tell.use (least_tell _ ?h1 ?h2 ?h3 ?h4) ?k1 ?k2 ?k3 ?k4 ?k5 ?kK ?kd ?ku ?_; (case k1 => k_asm); (case k2 => k_asm); (case k3 => k_asm); (case k4 => k_asm); (case k5 => k_asm); (case kK => first | exact rfl | assumption); (case h1 => k_mem); (case h2 => assumption); (case h3 => (intro p9 hp9; k_mem)); (case h4 => ((try simp only [List.length_append, List.length_map, List.length_cons, List.length_nil]); omega)); (case kd => ktr_room); (case ku => ktr_units); intro r9 N9 h9 tk9 F9 M9 ho9; obtain ⟨tl9, hD9, eN9, hA9⟩ := ho9; subst eN9; (try dsimp only); (try k_fold))))
local macro_rules | `(tactic| walk_at "call ref") => `(tactic| (k_here; (with_reducible show wpAny _ _ (call (Value.ref 201) [_]) _ _ _); k_dflt (refine' Tell.use (greatest_tell _ ?h1 ?h2 ?h3 ?h4) ?k1 ?k2 ?k3 ?k4 ?k5 ?kK ?kd ?ku ?_; (case k1 => k_asm); (case k2 => k_asm); (case k3 => k_asm); (case k4 => k_asm); (case k5 => k_asm); (case kK => first | exact rfl | assumption); (case h1 => k_mem); (case h2 => assumption); (case h3 => (intro p9 hp9; k_mem)); (case h4 => ((try simp only [List.length_append, List.length_map, List.length_cons, List.length_nil]); omega)); (case kd => ktr_room); (case ku => ktr_units); intro r9 N9 h9 tk9 F9 M9 ho9; obtain ⟨tl9, hD9, eN9, hA9⟩ := ho9; subst eN9; (try dsimp only); (try k_fold))))
local macro_rules | `(tactic| ktr_rel) => `(tactic| (refine DecAll.mono ?kms (by assumption); (intro p9 hp9; k_mem)))
section

structure Gl where
  x : Int
  y : Int
  wd : Int
  sz : Int
/-- the ledger bears at v a Glyph -/
def GlyphAt (N : Led) (v : Value) (g : Gl) : Prop :=
  ∃ a da t1 u1 u2 u3 u4 u5 g1 g2 g3 g4 g5 vx vy vw vs, v = .ref a ∧ (a, instObj 496 da) ∈ N ∧
    (da, dictOf [⟨g1, .str (Str.ofString "text") u1, .str (Str.ofString "a") t1⟩, ⟨g2, .str (Str.ofString "x") u2, .ref vx⟩, ⟨g3, .str (Str.ofString "y") u3, .ref vy⟩, ⟨g4, .str (Str.ofString "width") u4, .ref vw⟩, ⟨g5, .str (Str.ofString "size") u5, .ref vs⟩] 5) ∈ N ∧
    DecAt N (.ref vx) g.x ∧ DecAt N (.ref vy) g.y ∧ DecAt N (.ref vw) g.wd ∧ DecAt N (.ref vs) g.sz
theorem GlyphAt.mono {N N' : Led} {v : Value} {g : Gl} (s : ∀ p ∈ N, p ∈ N') : GlyphAt N v g → GlyphAt N' v g
  | ⟨a, da, t1, u1, u2, u3, u4, u5, g1, g2, g3, g4, g5, vx, vy, vw, vs, e, h1, h2, d1, d2, d3, d4⟩ => ⟨a, da, t1, u1, u2, u3, u4, u5, g1, g2, g3, g4, g5, vx, vy, vw, vs, e, s _ h1, s _ h2, d1.mono s, d2.mono s, d3.mono s, d4.mono s⟩

def DecOut (N : Led) (ys : List Value) (n : Led) (ns : List Int) : Prop := ∃ tl, n = tl ++ N ∧ Above tl N ∧ DecAll n ys ns

/-- the ledger bears at v a box: four Decimals -/
def BoxAt (N : Led) (v : Value) (f : Four) : Prop :=
  ∃ a c v1 v2 v3 v4, v = .ref a ∧ (a, tupO [v1, v2, v3, v4] c) ∈ N ∧ DecAt N v1 f.1 ∧ DecAt N v2 f.2.1 ∧ DecAt N v3 f.2.2.1 ∧ DecAt N v4 f.2.2.2
theorem BoxAt.mono {N N' : Led} {v : Value} {f : Four} (s : ∀ p ∈ N, p ∈ N') : BoxAt N v f → BoxAt N' v f
  | ⟨a, c, v1, v2, v3, v4, e, h, d1, d2, d3, d4⟩ => ⟨a, c, v1, v2, v3, v4, e, s _ h, d1.mono s, d2.mono s, d3.mono s, d4.mono s⟩
def boxXs (g0 : Gl) (gs : List Gl) : List Int := gs.map Gl.x ++ (g0 :: gs).map fun g => g.x + g.wd
def boxYs (g0 : Gl) (gs : List Gl) : List Int := gs.map Gl.y ++ (g0 :: gs).map fun g => g.y + g.sz
def boxF (g0 : Gl) (gs : List Gl) : Four := ((boxXs g0 gs).foldl min g0.x, (boxYs g0 gs).foldl min g0.y, (boxXs g0 gs).foldl max g0.x, (boxYs g0 gs).foldl max g0.y)

set_option maxHeartbeats 4000000 in
theorem box_tell (w : World) {l : Addr} {c : Nat} {vs : List Value} {gs : List Gl} {g0 : Gl} {N : Led} (hl : (l, listOf vs.toArray c) ∈ N) (hg : AllR GlyphAt N vs (g0 :: gs)) (hz : gs.length < 20) :
    Tell w 445 [.ref l] 12 N (fun r N' => ∃ tl, BoxAt (tl ++ N) r (boxF g0 gs) ∧ N' = tl ++ N ∧ Above tl N) := by
  unfold Tell
  k_fill
  intro loose mean mg mb dp un gd cn cs a0 ccd cl outer A₀ base h₀ L m s Q E B F X Nw T hcs hd hu hret
  refine wpAny_call ?_
  k_dflt ktr_enter
  have hgl := hg.len
  simp only [List.length_cons] at hgl
  have hv20 : vs.length < 1000000 := by omega
  walk
  k_dflt (refine LCg.ListComp_U (F₀ := by k_asm) (by rfl) (by decide) (by rfl) (by decide) (by rfl) ?_)
  walk
  refine comp_map DecAt (fun _ _ _ _ s h => h.mono s) ((g0 :: gs).map Gl.x) rfl (by k_asm) (by k_asm) (by k_mem) (by omega) (by rw [List.length_map]; exact hg.len) ?_ ?_
  · intro g k v d tl8 ys8 I oI C oC D m₂ h tk E' hv hd hC hx F2 N2 ne
    rw [List.getElem?_map] at hd
    obtain ⟨gl, hgl, rfl⟩ := Option.map_eq_some_iff.mp hd
    obtain ⟨a, da, t1, u1, u2, u3, u4, u5, g1, g2, g3, g4, g5, vx, vy, vw, vs', rfl, h1, h2, d1, d2, d3, d4⟩ := hg.get hv hgl
    walk
    exact EltEnd.of0 (by k_asm) (by k_asm) (d1.mono fun p hp => by k_mem)
  intro g D3 h tk tl3 ys3 F3 N3 hA3 hD3 hR3
  have hl3 : ys3.length = gs.length + 1 := by rw [hR3.len, List.length_map, List.length_cons]
  walk
  k_dflt (refine LCg.ListComp_U (F₀ := by k_asm) (by rfl) (by decide) (by rfl) (by decide) (by rfl) ?_)
  walk
  refine comp_map DecAt (fun _ _ _ _ s h => h.mono s) ((g0 :: gs).map fun g => g.x + g.wd) rfl (by k_asm) (by k_asm) (by k_mem) (by omega) (by rw [List.length_map]; exact hg.len) ?_ ?_
  · intro g k v d tl8 ys8 I oI C oC D m₂ h tk E' hv hd hC hx F2 N2 ne
    rw [List.getElem?_map] at hd
    obtain ⟨gl, hgl, rfl⟩ := Option.map_eq_some_iff.mp hd
    obtain ⟨a, da, t1, u1, u2, u3, u4, u5, g1, g2, g3, g4, g5, vx, vy, vw, vs', rfl, h1, h2, d1, d2, d3, d4⟩ := hg.get hv hgl
    obtain ⟨x1, dx1, _, _, _, _, _, _, e1, hx1, hdx1⟩ := id d1
    cases e1
    walk
    rename Above _ (Three _ _ _ _ _ _ _) => hA9
    rename DecAt _ _ (gl.x + gl.wd) => hD9
    exact EltEnd.of (by k_asm) (by k_asm) hA9 (hD9.mono fun p hp => inL hp)
  intro g D4 h tk tl4 ys4 F4 N4 hA4 hD4 hR4
  have hl4 : ys4.length = gs.length + 1 := by rw [hR4.len, List.length_map, List.length_cons]
  walk
  k_dflt (refine LCg.ListComp_U (F₀ := by k_asm) (by rfl) (by decide) (by rfl) (by decide) (by rfl) ?_)
  walk
  refine comp_map DecAt (fun _ _ _ _ s h => h.mono s) ((g0 :: gs).map Gl.y) rfl (by k_asm) (by k_asm) (by k_mem) (by omega) (by rw [List.length_map]; exact hg.len) ?_ ?_
  · intro g k v d tl8 ys8 I oI C oC D m₂ h tk E' hv hd hC hx F2 N2 ne
    rw [List.getElem?_map] at hd
    obtain ⟨gl, hgl, rfl⟩ := Option.map_eq_some_iff.mp hd
    obtain ⟨a, da, t1, u1, u2, u3, u4, u5, g1, g2, g3, g4, g5, vx, vy, vw, vs', rfl, h1, h2, d1, d2, d3, d4⟩ := hg.get hv hgl
    walk
    exact EltEnd.of0 (by k_asm) (by k_asm) (d2.mono fun p hp => by k_mem)
  intro g D5 h tk tl5 ys5 F5 N5 hA5 hD5 hR5
  have hl5 : ys5.length = gs.length + 1 := by rw [hR5.len, List.length_map, List.length_cons]
  walk
  k_dflt (refine LCg.ListComp_U (F₀ := by k_asm) (by rfl) (by decide) (by rfl) (by decide) (by rfl) ?_)
  walk
  refine comp_map DecAt (fun _ _ _ _ s h => h.mono s) ((g0 :: gs).map fun g => g.y + g.sz) rfl (by k_asm) (by k_asm) (by k_mem) (by omega) (by rw [List.length_map]; exact hg.len) ?_ ?_
  · intro g k v d tl8 ys8 I oI C oC D m₂ h tk E' hv hd hC hx F2 N2 ne
    rw [List.getElem?_map] at hd
    obtain ⟨gl, hgl, rfl⟩ := Option.map_eq_some_iff.mp hd
    obtain ⟨a, da, t1, u1, u2, u3, u4, u5, g1, g2, g3, g4, g5, vx, vy, vw, vs', rfl, h1, h2, d1, d2, d3, d4⟩ := hg.get hv hgl
    obtain ⟨x1, dx1, _, _, _, _, _, _, e1, hx1, hdx1⟩ := id d2
    cases e1
    walk
    rename Above _ (Three _ _ _ _ _ _ _) => hA9
    rename DecAt _ _ (gl.y + gl.sz) => hD9
    exact EltEnd.of (by k_asm) (by k_asm) hA9 (hD9.mono fun p hp => inL hp)
  intro g D6 h tk tl6 ys6 F6 N6 hA6 hD6 hR6
  have hl6 : ys6.length = gs.length + 1 := by rw [hR6.len, List.length_map, List.length_cons]
  have hAc : DecAll (tl4 ++ (D3, LCg.lst ys3) :: (tl3 ++ N)) (ys3 ++ ys4) (g0.x :: boxXs g0 gs) := AllR.app hR4 (AllR.monoR (fun _ _ h => DecAt.mono (fun p hp => inR (.tail _ hp)) h) hR3)
  have hUp := AllR.app hR6 (AllR.monoR (fun _ _ h => DecAt.mono (fun p hp => inR (.tail _ hp)) h) hR5)
  replace hUp : DecAll _ (ys5 ++ ys6) (g0.y :: boxYs g0 gs) := hUp
  have hz1 : (boxXs g0 gs).length < 100 := by unfold boxXs; simp only [List.length_append, List.length_map, List.length_cons]; omega
  have hz2 : (boxYs g0 gs).length < 100 := by unfold boxYs; simp only [List.length_append, List.length_map, List.length_cons]; omega
  walk
  rename_i kF kN Tc kX
  obtain ⟨tl, hA, hs, hN⟩ := grown (N := N) kN (by intro p hp; k_mem)
  rename DecAt _ _ (List.foldl min g0.x _) => e1
  rename DecAt _ _ (List.foldl min g0.y _) => e2
  rename DecAt _ _ (List.foldl max g0.x _) => e3
  rename DecAt _ _ (List.foldl max g0.y _) => e4
  refine hret _ _ _ _ kF hN ⟨tl, BoxAt.mono hs ⟨_, _, _, _, _, _, rfl, .head _, e1.mono ?_, e2.mono ?_, e3.mono ?_, e4.mono ?_⟩, rfl, hA⟩ <;> (intro p hp; k_mem)
end
section
theorem sortedS_pair : ∀ (l : List Str), sortedS l = true → l.Pairwise (fun a b => ltCps b.cps.toList a.cps.toList = false) := by
  have go : ∀ (l : List Str) (p : Str), risingS p l = true → l.Pairwise (fun a b => ltCps b.cps.toList a.cps.toList = false) ∧ ∀ b ∈ l, ltCps b.cps.toList p.cps.toList = false := by
    intro l
    induction l with
    | nil => intro p _; exact ⟨.nil, fun _ h => nomatch h⟩
    | cons x r ih =>
      intro p h
      simp only [risingS, Bool.and_eq_true, Bool.not_eq_true'] at h
      obtain ⟨h1, h2⟩ := ih x h.2
      refine ⟨List.pairwise_cons.mpr ⟨h2, h1⟩, fun b hb => ?_⟩
      rcases List.mem_cons.mp hb with rfl | hb
      · exact h.1
      · have h3 := h2 b hb
        rw [ltCps_eq, decide_eq_false_iff_not] at h3 ⊢
        have h4 := h.1
        rw [ltCps_eq, decide_eq_false_iff_not] at h4
        intro h5
        rcases PyProof.Rows.strKind.negTrans b.cps.toList x.cps.toList p.cps.toList (by simpa using h5) with h6 | h6
        · exact h3 (by simpa using h6)
        · exact h4 (by simpa using h6)
  intro l h
  cases l with
  | nil => exact .nil
  | cons x r => obtain ⟨h1, h2⟩ := go r x h; exact List.pairwise_cons.mpr ⟨h2, h1⟩
theorem le_antisymm' {a b : Str} (h : ltCps b.cps.toList a.cps.toList = false) (k : ltCps a.cps.toList b.cps.toList = false) : a = b := by
  rw [ltCps_eq, decide_eq_false_iff_not] at h k
  have e : a.cps.toList = b.cps.toList := List.le_antisymm h k
  cases a; cases b
  simpa using e
theorem sorted_unique : ∀ {l l' : List Str}, l.Perm l' → sortedS l = true → sortedS l' = true → l = l' := by
  have go : ∀ (l l' : List Str), l.Perm l' → l.Pairwise (fun a b => ltCps b.cps.toList a.cps.toList = false) → l'.Pairwise (fun a b => ltCps b.cps.toList a.cps.toList = false) → l = l' := by
    intro l
    induction l with
    | nil => intro l' p _ _; exact (List.nil_perm.mp p).symm
    | cons x r ih =>
      intro l' p h h'
      cases l' with
      | nil => exact absurd p (by simp)
      | cons y r' =>
        have e : x = y := by
          have hx : x ∈ y :: r' := p.mem_iff.mp (.head _)
          have hy : y ∈ x :: r := p.mem_iff.mpr (.head _)
          rcases List.mem_cons.mp hx with hx | hx
          · exact hx
          · rcases List.mem_cons.mp hy with hy | hy
            · exact hy.symm
            · exact le_antisymm' ((List.pairwise_cons.mp h).1 y hy) ((List.pairwise_cons.mp h').1 x hx)
        subst e
        rw [ih r' (List.perm_cons x |>.mp p) (List.pairwise_cons.mp h).2 (List.pairwise_cons.mp h').2]
  exact fun {_ _} p h h' => go _ _ p (sortedS_pair _ h) (sortedS_pair _ h')

section
variable {prog : Program} {w : World} {A : Around} {E : Value → Shared → Prop} {s : Shared} {h₀ : Heap} {L d : Addr} {m : Str → Option Value} {news : Led} {o : Obj} {kvs : List (Str × Value)} {Q : Value → Shared → Prop}
theorem strsAre_of : ∀ (vs : List Value) (kvs : List (Str × Value)), vs.length = kvs.length → (∀ (j : Nat) (v : Value), vs[j]? = some v → ∃ (k : Str) (x : Value), kvs[j]? = some (k, x) ∧ Value.isStrOf k v = true) → StrsAre vs (kvs.map (·.1))
  | [], [], _, _ => .nil
  | [], _ :: _, h, _ => by simp at h
  | _ :: _, [], h, _ => by simp at h
  | v :: r, q :: kr, h, hv => by
    obtain ⟨k, x, e, hk⟩ := hv 0 v rfl
    cases e
    obtain ⟨t, rfl⟩ := Value.isStrOf_shape hk
    exact .cons k t (strsAre_of r kr (by simpa using h) fun j u hu => by simpa using hv (j + 1) u (by simpa using hu))
theorem sortedD_mem (hh : A.handled = none) (F : Fr h₀ L s.heap m) (N : News h₀ L s.heap news) (lo : (d == sysModules) = false) (hm : (d, o) ∈ news) (hD : o.IsDictOf (PySem.strKind prog w) kvs) (hn : kvs.length < 60)
    (h : ∀ D c' h' tk vs' ss', Fr h₀ L h' m → News h₀ L h' ((D, listOf (List.toArray vs') c') :: news) → (∀ p ∈ news, @LT.lt Nat _ p.1 D) → StrsAre vs' ss' → ss'.Perm (kvs.map (·.1)) → sortedS ss' = true → Q (.ref D) { s with heap := h', toks := tk }) :
    wpAny (model prog w) A (call (.builtin "sorted") [.ref d]) Q E s := by
  obtain ⟨ep, hat⟩ := (Heap.dictOf_iff.mpr ⟨o, N.get hm, hD⟩ : s.heap.DictOf (PySem.strKind prog w) d kvs).dictAt
  refine kdu_sorted (kdl_dict (knd := PySem.strKind prog w) (kvs := kvs) (ep := ep) lo) hh F N hat (by rw [sizeLine_eq]; omega) fun D h' tk vs F' N' l1 hl hv => ?_
  have hS : StrsAre vs (kvs.map (·.1)) := strsAre_of vs kvs hl hv
  have hd := (N' _ (.head _)).1
  refine wpAny_call_entry PyProof.Rows.slot_list_sort ⟨_, hd, rfl⟩ PyProof.Rows.entry_list_sort (list_sort_treeK strKind_oneLt hd hS.keysOf (fun v₁ v₂ rest e => keyKind_strs (by rw [← e]; exact hS)) (by omega) fun st' hp hs => ⟨_, rfl, ?_⟩) (args_list_sort _)
  obtain ⟨ss', h1, h2, h3⟩ := sorted_out_str hS hp hs
  obtain ⟨e1, he1⟩ := sortedHeap_at (out := (arrOf st').map (·.2)) hd
  have old : ∀ b o, b ≠ D → h'.get? b = some o → (sortedHeap h' D vs ((arrOf st').map (·.2))).get? b = some o := fun b o hb e => by rw [sortedHeap_old hb (Heap.lt_size e)]; exact e
  have hDL := (N' _ (.head _)).2
  refine h D e1 _ tk _ ss' ⟨F'.ns.at' fun o e => old _ o (Ne.symm hDL.1) e, fun b o e => old b o (fun q => by rw [q, hDL.2] at e; cases e) (F'.keep b o e), F'.above⟩ (fun p hp => ?_) l1 h1 h2 h3
  rcases List.mem_cons.mp hp with rfl | hp
  · refine ⟨?_, hDL⟩
    rw [Array.toArray_toList]
    exact he1
  · exact ⟨old _ _ (Nat.ne_of_lt (l1 p hp)) (N' p (.tail _ hp)).1, (N' p (.tail _ hp)).2⟩
end
end
section
/-- an object of the paper, as data -/
inductive OV where
  | int (n : Int)
  | real (n : Int)
  | name (s : Str)
  | ref (n g : Int)
  | arr (l : List OV)
  | dict (ks : List Str) (os : List OV)
mutual
/-- the ledger bears it at v -/
inductive OvAt (w : World) (N : Led) : Value → OV → Prop
  | int (n : Int) (t : Tok) : OvAt w N (.int n t) (.int n)
  | real {v : Value} {n : Int} : DecAt N v n → OvAt w N v (.real n)
  | name {x dx : Addr} {s : Str} {g1 : Int} {u1 t : Tok} : (x, instObj 218 dx) ∈ N → (dx, dictOf [⟨g1, .str (Str.ofString "text") u1, .str s t⟩] 1) ∈ N → OvAt w N (.ref x) (.name s)
  | ref {x dx : Addr} {n g : Int} {g1 g2 : Int} {u1 u2 t1 t2 : Tok} : (x, instObj 289 dx) ∈ N → (dx, dictOf [⟨g1, .str (Str.ofString "number") u1, .int n t1⟩, ⟨g2, .str (Str.ofString "generation") u2, .int g t2⟩] 2) ∈ N → OvAt w N (.ref x) (.ref n g)
  | arr {a : Addr} {vs : List Value} {c : Nat} {l : List OV} : (a, listOf vs.toArray c) ∈ N → OvAll w N vs l → OvAt w N (.ref a) (.arr l)
  | dict {a : Addr} {es : List DictEntry} {c : Nat} {kvs : List (Str × Value)} {vs : List Value} {ks : List Str} {os : List OV} : (a == sysModules) = false → (a, dictOf es c) ∈ N → Obj.IsDictOf (PySem.strKind PySem.Challenge.rw_pb0480_01.row.prog w) (dictOf es c) kvs → kvs.Perm (ks.zip vs) → sortedS ks = true → ks.Nodup → ks.length < 60 → vs.length = ks.length → OvAll w N vs os → OvAt w N (.ref a) (.dict ks os)
inductive OvAll (w : World) (N : Led) : List Value → List OV → Prop
  | nil : OvAll w N [] []
  | cons {v : Value} {vs : List Value} {o : OV} {os : List OV} : OvAt w N v o → OvAll w N vs os → OvAll w N (v :: vs) (o :: os)
end
mutual
theorem OvAt.mono {w : World} {N N' : Led} (s : ∀ p ∈ N, p ∈ N') : ∀ {v : Value} {o : OV}, OvAt w N v o → OvAt w N' v o
  | _, _, .int n t => .int n t
  | _, _, .real h => .real (h.mono s)
  | _, _, .name h1 h2 => .name (s _ h1) (s _ h2)
  | _, _, .ref h1 h2 => .ref (s _ h1) (s _ h2)
  | _, _, .arr h r => .arr (s _ h) (OvAll.mono s r)
  | _, _, .dict lo h a b c d e f r => .dict lo (s _ h) a b c d e f (OvAll.mono s r)
theorem OvAll.mono {w : World} {N N' : Led} (s : ∀ p ∈ N, p ∈ N') : ∀ {vs : List Value} {os : List OV}, OvAll w N vs os → OvAll w N' vs os
  | _, _, .nil => .nil
  | _, _, .cons h r => .cons (OvAt.mono s h) (OvAll.mono s r)
end
theorem OvAll.len {w : World} {N : Led} : ∀ {vs : List Value} {os : List OV}, OvAll w N vs os → vs.length = os.length
  | _, _, .nil => rfl
  | _, _, .cons _ r => congrArg (· + 1) r.len
theorem OvAll.get {w : World} {N : Led} : ∀ {vs : List Value} {os : List OV} {k : Nat} {v : Value} {o : OV}, OvAll w N vs os → vs[k]? = some v → os[k]? = some o → OvAt w N v o
  | _, _, 0, _, _, .cons h _, e1, e2 => by cases e1; cases e2; exact h
  | _, _, _ + 1, _, _, .cons _ r, e1, e2 => r.get (by simpa using e1) (by simpa using e2)
  | _, _, _, _, _, .nil, e1, _ => by simp at e1
mutual
/-- what told gives back -/
def tOf : OV → Dat
  | .int n => .tuple [.str (Str.ofString "int"), .int n]
  | .real n => .tuple [.str (Str.ofString "real"), .int n, .int 0]
  | .name s => .tuple [.str (Str.ofString "name"), .str s]
  | .ref n g => .tuple [.str (Str.ofString "ref"), .int n, .int g]
  | .arr l => .tuple (.str (Str.ofString "array") :: tsOf l)
  | .dict ks os => .tuple (.str (Str.ofString "dict") :: List.zipWith (fun k d => .tuple [.str k, d]) ks (tsOf os))
def tsOf : List OV → List Dat
  | [] => []
  | o :: r => tOf o :: tsOf r
end
mutual
def OV.ht : OV → Nat
  | .arr l => OV.hts l + 1
  | .dict _ os => OV.hts os + 1
  | _ => 0
def OV.hts : List OV → Nat
  | [] => 0
  | o :: r => max o.ht (OV.hts r)
end
theorem hts_get : ∀ {os : List OV} {k : Nat} {o : OV}, os[k]? = some o → o.ht ≤ OV.hts os
  | _ :: _, 0, _, e => by cases e; rw [OV.hts]; exact Nat.le_max_left ..
  | _ :: r, k + 1, _, e => by rw [OV.hts]; exact Nat.le_trans (hts_get (os := r) (k := k) (by simpa using e)) (Nat.le_max_right ..)
theorem tsOf_get : ∀ {os : List OV} {k : Nat} {o : OV}, os[k]? = some o → (tsOf os)[k]? = some (tOf o)
  | _ :: _, 0, _, e => by cases e; rfl
  | _ :: r, k + 1, _, e => by rw [tsOf]; simpa using tsOf_get (os := r) (k := k) (by simpa using e)
theorem tsOf_len : ∀ (os : List OV), (tsOf os).length = os.length
  | [] => rfl
  | _ :: r => by rw [tsOf, List.length_cons, tsOf_len r, List.length_cons]
def kindS : OV → Str
  | .int _ => Str.ofString "int"
  | .real _ => Str.ofString "real"
  | .name _ => Str.ofString "name"
  | .ref _ _ => Str.ofString "ref"
  | .arr _ => Str.ofString "array"
  | .dict _ _ => Str.ofString "dict"
theorem datAll_of {N : Led} : ∀ {vs : List Value} {ds : List Dat}, AllR DatIn N vs ds → DatAll N vs ds
  | _, _, .nil => .nil
  | _, _, .cons h r => .cons h (datAll_of r)

set_option maxHeartbeats 4000000 in
theorem kind_tell (w : World) {v : Value} {o : OV} {N : Led} (ho : OvAt w N v o) :
    Tell w 300 [v] 1 N (fun r N' => ∃ t, r = .str (kindS o) t ∧ N' = N) := by
  unfold Tell
  k_fill
  intro loose mean mg mb dp un gd cn cs a0 ccd cl outer A₀ base h₀ L m s Q E B F X Nw T hcs hd hu hret
  cases ho with
  | int n t =>
    refine wpAny_call ?_
    k_dflt ktr_enter
    walk
    rename_i kF kN Tc kX
    exact hret _ _ _ _ kF kN ⟨_, rfl, rfl⟩
  | real hd =>
    obtain ⟨x1, dx1, _, _, _, _, _, _, e1, hx1, hdx1⟩ := id hd
    cases e1
    refine wpAny_call ?_
    k_dflt ktr_enter
    walk
    rename_i kF kN Tc kX
    exact hret _ _ _ _ kF kN ⟨_, rfl, rfl⟩
  | name h1 h2 =>
    refine wpAny_call ?_
    k_dflt ktr_enter
    walk
    rename_i kF kN Tc kX
    exact hret _ _ _ _ kF kN ⟨_, rfl, rfl⟩
  | ref h1 h2 =>
    refine wpAny_call ?_
    k_dflt ktr_enter
    walk
    rename_i kF kN Tc kX
    exact hret _ _ _ _ kF kN ⟨_, rfl, rfl⟩
  | arr h1 h2 =>
    refine wpAny_call ?_
    k_dflt ktr_enter
    walk
    rename_i kF kN Tc kX
    exact hret _ _ _ _ kF kN ⟨_, rfl, rfl⟩
  | dict lo h1 h2 =>
    refine wpAny_call ?_
    k_dflt ktr_enter
    walk
    rename_i kF kN Tc kX
    exact hret _ _ _ _ kF kN ⟨_, rfl, rfl⟩
end
local macro_rules | `(tactic| walk_at "call ref") => `(tactic| (k_here; (with_reducible show wpAny _ _ (call (Value.ref 300) [_]) _ _ _); k_dflt (refine' Tell.use (kind_tell _ ?h1) ?k1 ?k2 ?k3 ?k4 ?k5 ?kK ?kd ?ku ?_; (case k1 => k_asm); (case k2 => k_asm); (case k3 => k_asm); (case k4 => k_asm); (case k5 => k_asm); (case kK => first | exact rfl | assumption); (case h1 => ktr_rel); (case kd => ktr_room); (case ku => ktr_units); intro r9 N9 h9 tk9 F9 M9 ho9; obtain ⟨t9, er9, eN9⟩ := ho9; subst er9; (replace eN9 := Eq.symm eN9); subst eN9; (try dsimp only [kindS]); (try k_fold))))
local macro_rules | `(tactic| ktr_rel) => `(tactic| (refine OvAt.mono ?kms (by assumption); (intro p9 hp9; k_mem)))
section

def ToldOK (w : World) (o : OV) : Prop := ∀ (v : Value) (N : Led), OvAt w N v o →
  Tell w 312 [v] (3 * o.ht + 4) N (fun r N' => ∃ tl, DatIn tl r (tOf o) ∧ N' = tl ++ N ∧ Above tl N)


set_option maxHeartbeats 4000000 in
theorem told_int (w : World) (n : Int) : ToldOK w (.int n) := by
  intro v N ho
  unfold Tell
  k_fill
  intro loose mean mg mb dp un gd cn cs a0 ccd cl outer A₀ base h₀ L m s Q E B F X Nw T hcs hd hu hret
  simp only [OV.ht] at hd hu
  have ho' := ho
  cases ho
  refine wpAny_call ?_
  k_dflt cell_enter
  walk
  rename_i kF kN Tc kX
  obtain ⟨tl, hA, hs, hN⟩ := grown2 (N := N) kN (by intro p hp; k_mem)
  refine hret _ _ _ _ kF hN ⟨tl, DatIn.tuple (hs _ (.head _) fun q hq => ?_) (.cons (.str _ _) (.cons (.int _ _) .nil)), rfl, hA⟩
  exact Ne.symm (Nat.ne_of_lt (by first | exact ktn_ltOf (by tbn_lt) q hq))

set_option maxHeartbeats 4000000 in
theorem told_real (w : World) (n : Int) : ToldOK w (.real n) := by
  intro v N ho
  unfold Tell
  k_fill
  intro loose mean mg mb dp un gd cn cs a0 ccd cl outer A₀ base h₀ L m s Q E B F X Nw T hcs hd hu hret
  simp only [OV.ht] at hd hu
  have ho' := ho
  cases ho
  obtain ⟨x1, dx1, _, _, _, _, _, _, e1, hx1, hdx1⟩ := id (by assumption : DecAt N v n)
  cases e1
  refine wpAny_call ?_
  k_dflt cell_enter
  walk
  rename_i kF kN Tc kX
  obtain ⟨tl, hA, hs, hN⟩ := grown2 (N := N) kN (by intro p hp; k_mem)
  refine hret _ _ _ _ kF hN ⟨tl, DatIn.tuple (hs _ (.head _) fun q hq => ?_) (.cons (.str _ _) (.cons (.int _ _) (.cons (.int _ _) .nil))), rfl, hA⟩
  exact Ne.symm (Nat.ne_of_lt (by first | exact ktn_ltOf (by tbn_lt) q hq))

set_option maxHeartbeats 4000000 in
theorem told_name (w : World) (n : Str) : ToldOK w (.name n) := by
  intro v N ho
  unfold Tell
  k_fill
  intro loose mean mg mb dp un gd cn cs a0 ccd cl outer A₀ base h₀ L m s Q E B F X Nw T hcs hd hu hret
  simp only [OV.ht] at hd hu
  have ho' := ho
  cases ho
  refine wpAny_call ?_
  k_dflt cell_enter
  walk
  rename_i kF kN Tc kX
  obtain ⟨tl, hA, hs, hN⟩ := grown2 (N := N) kN (by intro p hp; k_mem)
  refine hret _ _ _ _ kF hN ⟨tl, DatIn.tuple (hs _ (.head _) fun q hq => ?_) (.cons (.str _ _) (.cons (.str _ _) .nil)), rfl, hA⟩
  exact Ne.symm (Nat.ne_of_lt (by first | exact ktn_ltOf (by tbn_lt) q hq))

set_option maxHeartbeats 4000000 in
theorem told_ref (w : World) (n g : Int) : ToldOK w (.ref n g) := by
  intro v N ho
  unfold Tell
  k_fill
  intro loose mean mg mb dp un gd cn cs a0 ccd cl outer A₀ base h₀ L m s Q E B F X Nw T hcs hd hu hret
  simp only [OV.ht] at hd hu
  have ho' := ho
  cases ho
  refine wpAny_call ?_
  k_dflt cell_enter
  walk
  rename_i kF kN Tc kX
  obtain ⟨tl, hA, hs, hN⟩ := grown2 (N := N) kN (by intro p hp; k_mem)
  refine hret _ _ _ _ kF hN ⟨tl, DatIn.tuple (hs _ (.head _) fun q hq => ?_) (.cons (.str _ _) (.cons (.int _ _) (.cons (.int _ _) .nil))), rfl, hA⟩
  exact Ne.symm (Nat.ne_of_lt (by first | exact ktn_ltOf (by tbn_lt) q hq))
end
section

theorem tsOf_at {l : List OV} {k : Nat} {d : Dat} (e : (tsOf l)[k]? = some d) : ∃ o, l[k]? = some o ∧ d = tOf o := by
  have hk : k < l.length := by
    have := (List.getElem?_eq_some_iff.mp e).1
    rwa [tsOf_len] at this
  have := tsOf_get (List.getElem?_eq_getElem hk)
  rw [e] at this
  exact ⟨_, List.getElem?_eq_getElem hk, Option.some.inj this⟩
/-- a datum made of new objects -/
def FreshD (N0 n : Led) (v : Value) (d : Dat) : Prop := ∃ tl, DatIn tl v d ∧ (∀ p ∈ tl, p ∈ n) ∧ Above tl N0
theorem FreshD.mono {N0 N N' : Led} {v : Value} {d : Dat} (s : ∀ p ∈ N, p ∈ N') : FreshD N0 N v d → FreshD N0 N' v d
  | ⟨tl, h, k, a⟩ => ⟨tl, h, fun p hp => s p (k p hp), a⟩
theorem FreshD.at {N0 n tl : Led} {v : Value} {d : Dat} (h : FreshD N0 n v d) (k : ∀ p ∈ n, (∀ q ∈ N0, p.1 ≠ q.1) → p ∈ tl) : DatIn tl v d :=
  let ⟨_, h1, h2, h3⟩ := h; DatIn.mono (fun p hp => k p (h2 p hp) fun q hq => h3 q hq p hp) h1
theorem freshAll {N0 n tl : Led} (k : ∀ p ∈ n, (∀ q ∈ N0, p.1 ≠ q.1) → p ∈ tl) : ∀ {vs : List Value} {ds : List Dat}, AllR (FreshD N0) n vs ds → DatAll tl vs ds
  | _, _, .nil => .nil
  | _, _, .cons h r => .cons (h.at k) (freshAll k r)

set_option maxHeartbeats 4000000 in
theorem told_arr (w : World) (l : List OV) (hz : l.length < 1000) (IH : ∀ o ∈ l, ToldOK w o) : ToldOK w (.arr l) := by
  intro v N ho
  unfold Tell
  k_fill
  intro loose mean mg mb dp un gd cn cs a0 ccd cl outer A₀ base h₀ L m s Q E B F X Nw T hcs hd hu hret
  simp only [OV.ht] at hd hu
  have ho' := ho
  cases ho with
  | @arr a vs c _ h1 h2 =>
    have hlen := h2.len
    refine wpAny_call ?_
    k_dflt cell_enter
    walk
    k_dflt (refine LCg.ListComp_U (F₀ := by k_asm) (by rfl) (by decide) (by rfl) (by decide) (by rfl) ?_)
    walk
    refine comp_map (FreshD N) (fun _ _ _ _ s h => h.mono s) (tsOf l) rfl (by k_asm) (by k_asm) (by k_mem) (by omega) (by rw [tsOf_len]; exact hlen) ?_ ?_
    · intro g k v d tl8 ys8 I oI C oC D m₂ h tk E' hv hd8 hC hx F2 N2 ne
      obtain ⟨o, hok, rfl⟩ := tsOf_at hd8
      have hov := h2.get hv hok
      have hht := hts_get hok
      walk
      k_dflt (refine' Tell.use (IH o (List.mem_of_getElem? hok) v _ (OvAt.mono ?ks hov)) ?k1 ?k2 ?k3 ?k4 ?k5 ?kK ?kd ?ku ?_; (case k1 => k_asm); (case k2 => k_asm); (case k3 => k_asm); (case k4 => k_asm); (case k5 => k_asm); (case kK => first | exact rfl | assumption); (case kd => ktr_room); (case ku => ktr_units); (case ks => intro p hp; k_mem))
      intro r9 N9 h9 tk9 F9 M9 ho9
      obtain ⟨tl9, hD9, eN9, hA9⟩ := ho9; subst eN9
      try k_unfold
      exact EltEnd.of F9 M9 hA9 ⟨tl9, hD9, fun p hp => inL hp, above_sub hA9 fun p hp => by k_mem⟩
    intro g D3 h tk tl3 ys3 F3 N3 hA3 hD3 hR3
    have hl3 : ys3.length = l.length := by rw [hR3.len, tsOf_len]
    walk
    k_dflt (refine addT_mem (N0 := N) (by k_asm) (by k_asm) (by k_mem) (by k_mem) (by simp) (by simp only [List.length_cons, List.length_nil]; omega) (by intro p hp; k_mem) (fun q hq => Ne.symm (Nat.ne_of_lt (ktn_ltOf (by tbn_lt) q hq))) ?_)
    intro D4 c4 h4 tl4 F4 N4 hm4 hD4
    walk
    rename_i kF kN Tc kX
    obtain ⟨tl, hA, hs, hN⟩ := grown2 (N := N) kN (by intro p hp; k_mem)
    refine hret _ _ _ _ kF hN ⟨tl, DatIn.tuple (hs _ hm4 hD4) (.cons (.str _ _) (freshAll (n := tl3 ++ _) (fun p hp hq => hs p (by k_mem) hq) hR3)), rfl, hA⟩
end
section

section
variable {prog : Program} {w : World} {A : Around} {E : Value → Shared → Prop} {s : Shared} {h₀ : Heap} {L d : Addr} {news : Led} {o : Obj} {kvs : List (Str × Value)} {k : Str} {t : Tok} {v : Value} {Q : Value → Shared → Prop}
theorem dget_mem {value slice : PySem.Expr} (N : News h₀ L s.heap news) (hm : (d, o) ∈ news) (hD : o.IsDictOf (PySem.strKind prog w) kvs) (hk : valueAt kvs k = some v) (h : Q v { s with toks := s.toks + 1 })
    (hs : subscripted slice false (.ref d) (.str k t) = operate [.ref d, .str k t] (getItem (.ref d) (.str k t)) := by with_unfolding_all rfl) :
    wpAny (model prog w) A (subscriptTail value slice (.ref d) (.str k t)) Q E s :=
  have hd : s.heap.DictOf (PySem.strKind prog w) d kvs := Heap.dictOf_iff.mpr ⟨o, N.get hm, hD⟩
  tail_any hd.mapOf.typeIs slot_dict_getitem.lookup (wpAny_getItem_of (strKind_is prog w k t) hd.mapOf hk h) hs
end
theorem valueAt_perm {kvs : List (Str × Value)} {ks : List Str} {vs : List Value} (hp : kvs.Perm (ks.zip vs)) (hn : ks.Nodup) (hl : vs.length = ks.length) {j : Nat} {k : Str} {v : Value} (e1 : ks[j]? = some k) (e2 : vs[j]? = some v) : valueAt kvs k = some v := by
  have hk : (kvs.map (·.1)).Perm ks := by
    have := hp.map (·.1)
    rwa [List.map_fst_zip (by omega)] at this
  have hm : (k, v) ∈ kvs := by
    refine hp.mem_iff.mpr (List.mem_of_getElem? (i := j) ?_)
    rw [List.getElem?_zip_eq_some]
    exact ⟨e1, e2⟩
  obtain ⟨i, hi⟩ := List.getElem?_of_mem hm
  exact valueAt_of_get (hk.nodup_iff.mpr hn) hi
theorem OvAt.shape {w : World} {N : Led} {v : Value} {o : OV} (h : OvAt w N v o) : (∃ n t, v = .int n t) ∨ ∃ a, v = .ref a := by
  cases h with
  | int n t => exact .inl ⟨n, t, rfl⟩
  | real h => obtain ⟨x, _, _, _, _, _, _, _, e, _⟩ := h; exact .inr ⟨x, e⟩
  | name => exact .inr ⟨_, rfl⟩
  | ref => exact .inr ⟨_, rfl⟩
  | arr => exact .inr ⟨_, rfl⟩
  | dict => exact .inr ⟨_, rfl⟩
theorem strsAre_get : ∀ {vs : List Value} {ss : List Str} {j : Nat} {v : Value} {k : Str}, StrsAre vs ss → vs[j]? = some v → ss[j]? = some k → ∃ t, v = .str k t
  | _, _, 0, _, _, .cons y t r, e1, e2 => by cases e1; cases e2; exact ⟨t, rfl⟩
  | _, _, j + 1, _, _, .cons y t r, e1, e2 => strsAre_get r (by simpa using e1) (by simpa using e2)
  | _, _, _, _, _, .nil, e1, _ => by simp at e1
theorem above_cons {p : Addr × Obj} {tl N : Led} (h : ∀ q ∈ N, p.1 ≠ q.1) (k : Above tl N) : Above (p :: tl) N := fun q hq r hr => by
  rcases List.mem_cons.mp hr with rfl | hr
  · exact h q hq
  · exact k q hq r hr
theorem EltEnd.cons {δ : Type} {R : Led → Value → δ → Prop} {N3 n tl9 : Led} {D : Addr} {o : Obj} {d : δ} {y : Value} {h' : Heap} {tk' : Nat} (F : Fr h₀ L h' m) (N : News h₀ L h' ((D, o) :: (tl9 ++ N3))) (l : ∀ p ∈ tl9 ++ N3, @LT.lt Nat _ p.1 D) (hA : Above tl9 N3) (r : Above ((D, o) :: tl9) N3 → R (((D, o) :: tl9) ++ n) y d) : EltEnd R h₀ L m s N3 n d y { s with heap := h', toks := tk' } :=
  have hA' : Above ((D, o) :: tl9) N3 := above_cons (fun q hq => Ne.symm (Nat.ne_of_lt (l q (inR hq)))) hA
  EltEnd.of (tl := (D, o) :: tl9) F N hA' (r hA')
def pairD (k : Str) (d : Dat) : Dat := .tuple [.str k, d]

set_option maxHeartbeats 4000000 in
theorem told_dict (w : World) (ks : List Str) (os : List OV) (IH : ∀ o ∈ os, ToldOK w o) : ToldOK w (.dict ks os) := by
  intro v N ho
  unfold Tell
  k_fill
  intro loose mean mg mb dp un gd cn cs a0 ccd cl outer A₀ base h₀ L m s Q E B F X Nw T hcs hd hu hret
  simp only [OV.ht] at hd hu
  have ho' := ho
  cases ho with
  | @dict a es c kvs vs _ _ lo h1 hD hp hsk hnk h60 hvl h2 =>
    have hlen := h2.len
    have hkk : (kvs.map (·.1)).Perm ks := by
      have := hp.map (·.1)
      rwa [List.map_fst_zip (by omega)] at this
    have hkl : kvs.length < 60 := by rw [← List.length_map (f := (·.1)), hkk.length_eq]; exact h60
    refine wpAny_call ?_
    k_dflt cell_enter
    walk
    k_dflt (refine LCt.ListComp_T (F₀ := by k_asm) (by with_unfolding_all rfl) (by decide) (by rfl) (by decide) (by rfl) ?_)
    walk
    k_dflt (refine sortedD_mem (by rfl) (by k_asm) (by k_asm) lo (by k_mem) hD hkl ?_)
    intro D5 c5 h5 tk5 vs5 ss5 F5 N5 l5 hS5 hp5 hs5
    have e5 : ss5 = ks := sorted_unique (hp5.trans hkk) hs5 hsk
    subst e5
    have hl5 : vs5.length = ss5.length := hS5.length
    refine comp_mapT (FreshD N) (fun _ _ _ _ s h => h.mono s) (List.zipWith pairD ss5 (tsOf os)) rfl (by k_asm) (by k_asm) (by k_mem) (by omega) (by rw [List.length_zipWith, tsOf_len]; omega) ?_ ?_
    · intro j v d tl8 ys8 I oI C oC D m₂ h tk E' hv hd8 hC hx F2 N2 ne
      obtain ⟨k, d', hk, hd', rfl⟩ : ∃ k d', ss5[j]? = some k ∧ (tsOf os)[j]? = some d' ∧ d = pairD k d' := by
        rw [List.getElem?_zipWith] at hd8
        cases e1 : ss5[j]? with
        | none => rw [e1] at hd8; simp at hd8
        | some k =>
          cases e2 : (tsOf os)[j]? with
          | none => rw [e1, e2] at hd8; simp at hd8
          | some d' => rw [e1, e2] at hd8; exact ⟨k, d', rfl, rfl, by simpa using hd8.symm⟩
      obtain ⟨t5, rfl⟩ := strsAre_get hS5 hv hk
      obtain ⟨o, hok, rfl⟩ := tsOf_at hd'
      have hjv : j < vs.length := by rw [hlen]; exact (List.getElem?_eq_some_iff.mp hok).1
      have hvj := List.getElem?_eq_getElem hjv
      have hov := h2.get hvj hok
      have hval := valueAt_perm hp hnk hvl hk hvj
      have hht := hts_get hok
      generalize vs[j] = u at hvj hov hval
      walk
      k_dflt (refine dget_mem (by k_asm) (by k_mem) hD hval ?_)
      have hsh := hov.shape
      rcases hsh with ⟨n7, t7, rfl⟩ | ⟨a7, rfl⟩ <;> (
        walk
        k_dflt (refine dget_mem (by k_asm) (by k_mem) hD hval ?_)
        walk
        k_dflt (refine' Tell.use (IH o (List.mem_of_getElem? hok) _ _ (OvAt.mono ?ks hov)) ?k1 ?k2 ?k3 ?k4 ?k5 ?kK ?kd ?ku ?_; (case k1 => k_asm); (case k2 => k_asm); (case k3 => k_asm); (case k4 => k_asm); (case k5 => k_asm); (case kK => first | exact rfl | assumption); (case kd => ktr_room); (case ku => ktr_units); (case ks => intro p hp; k_mem))
        intro r9 N9 h9 tk9 F9 M9 ho9
        obtain ⟨tl9, hD9, eN9, hA9⟩ := ho9; subst eN9
        (try k_fold)
        walk
        rename_i F10 N10 l10
        exact EltEnd.cons F10 N10 l10 hA9 fun hA10 => ⟨_, DatIn.tuple (.head _) (.cons (.str _ _) (.cons (DatIn.mono (fun p hp => .tail _ hp) hD9) .nil)), fun p hp => inL hp, above_sub hA10 fun p hp => by k_mem⟩)
    intro g D3 h tk tl3 ys3 F3 N3 hA3 hD3 hR3
    have hl3 : ys3.length = os.length := by rw [hR3.len, List.length_zipWith, tsOf_len]; omega
    walk
    k_dflt (refine addT_mem (N0 := N) (by k_asm) (by k_asm) (by k_mem) (by k_mem) (by simp) (by simp only [List.length_cons, List.length_nil]; omega) (by intro p hp; k_mem) (fun q hq => Ne.symm (Nat.ne_of_lt (ktn_ltOf (by tbn_lt) q hq))) ?_)
    intro D4 c4 h4 tl4 F4 N4 hm4 hD4
    walk
    rename_i kF kN Tc kX
    obtain ⟨tl, hA, hs, hN⟩ := grown2 (N := N) kN (by intro p hp; k_mem)
    refine hret _ _ _ _ kF hN ⟨tl, DatIn.tuple (hs _ hm4 hD4) (.cons (.str _ _) (freshAll (n := tl3 ++ _) (fun p hp hq => hs p (by k_mem) hq) hR3)), rfl, hA⟩
end
section
mutual
def OV.wide : OV → Prop
  | .arr l => l.length < 1000 ∧ OV.wides l
  | .dict _ os => OV.wides os
  | _ => True
def OV.wides : List OV → Prop
  | [] => True
  | o :: r => o.wide ∧ OV.wides r
end
mutual
theorem told_ok (w : World) : ∀ o : OV, o.wide → ToldOK w o
  | .int n, _ => told_int w n
  | .real n, _ => told_real w n
  | .name s, _ => told_name w s
  | .ref n g, _ => told_ref w n g
  | .arr l, h => by rw [OV.wide] at h; exact told_arr w l h.1 (told_oks w l h.2)
  | .dict ks os, h => by rw [OV.wide] at h; exact told_dict w ks os (told_oks w os h)
theorem told_oks (w : World) : ∀ l : List OV, OV.wides l → ∀ o ∈ l, ToldOK w o
  | [], _, _, hm => nomatch hm
  | o :: r, h, _, hm => by
    rw [OV.wides] at h
    rcases List.mem_cons.mp hm with e | hm
    · rw [e]; exact told_ok w o h.1
    · exact told_oks w r h.2 _ hm
end
theorem Tell.weaken {w : World} {f : Addr} {vs : List Value} {k k' : Nat} {N : Led} {Out : Value → Led → Prop} (hk : k ≤ k') (C : Tell w f vs k N Out) : Tell w f vs k' N Out := by
  intro loose mean mg mb dp un gd cn cs a0 ccd cl outer A₀ base h₀ L m s Q E B F X Nw T hcs hd hu hret
  exact C _ _ _ _ _ _ _ _ _ _ _ _ _ _ _ _ _ _ _ _ _ B F X Nw T hcs (by omega) (by omega) hret
structure Fine (o : OV) : Prop where
  wide : o.wide
  low : o.ht ≤ 5
theorem told_tell (w : World) {v : Value} {o : OV} {N : Led} (h : OvAt w N v o) (f : Fine o) :
    Tell w 312 [v] 20 N (fun r N' => ∃ tl, DatIn tl r (tOf o) ∧ N' = tl ++ N ∧ Above tl N) :=
  Tell.weaken (by have := f.low; omega) (told_ok w o f.wide v N h)

set_option maxHeartbeats 4000000 in
theorem name_new (w : World) (s0 : Str) (t : Tok) (N : Led) :
    Tell w 218 [.str s0 t] 3 N (fun r N' => ∃ tl, OvAt w tl r (.name s0) ∧ N' = tl ++ N ∧ Above tl N) := by
  unfold Tell
  k_fill
  intro loose mean mg mb dp un gd cn cs a ccd cl outer A₀ base h₀ L m s Q E B F X N T hcs hd hu hret
  k_dflt (refine' call_cls ?k1 ?k2 ?k3 ?k4 ?k5 ?k6 ?_; (case k1 => k_asm); (case k2 => k_asm); (case k3 => k_asm); (case k4 => k_is); (case k5 => k_is); (case k6 => k_is); k_whole; intro x' d' h' F' N' l1 l2; (try k_lt l1); (try k_lt2 l2); (try k_sweep))
  k_dflt ktr_enter
  k_steps
  rename_i kF kN Tc kX
  refine hret _ _ _ _ kF kN ⟨[_, _], .name (.head _) (.tail _ (.head _)), rfl, above_two (allLt_of l1) l2⟩

set_option maxHeartbeats 4000000 in
theorem ref_new (w : World) (n g : Int) (t t' : Tok) (N : Led) :
    Tell w 289 [.int n t, .int g t'] 3 N (fun r N' => ∃ tl, OvAt w tl r (.ref n g) ∧ N' = tl ++ N ∧ Above tl N) := by
  unfold Tell
  k_fill
  intro loose mean mg mb dp un gd cn cs a ccd cl outer A₀ base h₀ L m s Q E B F X N T hcs hd hu hret
  k_dflt (refine' call_cls ?k1 ?k2 ?k3 ?k4 ?k5 ?k6 ?_; (case k1 => k_asm); (case k2 => k_asm); (case k3 => k_asm); (case k4 => k_is); (case k5 => k_is); (case k6 => k_is); k_whole; intro x' d' h' F' N' l1 l2; (try k_lt l1); (try k_lt2 l2); (try k_sweep))
  k_dflt ktr_enter
  k_steps
  rename_i kF kN Tc kX
  refine hret _ _ _ _ kF kN ⟨[_, _], .ref (.head _) (.tail _ (.head _)), rfl, above_two (allLt_of l1) l2⟩
end
local macro_rules | `(tactic| walk_at "call ref") => `(tactic| (k_here; (with_reducible show wpAny _ _ (call (Value.ref 218) [Value.str _ _]) _ _ _); k_dflt (refine' Tell.use (name_new _ _ _ _) ?k1 ?k2 ?k3 ?k4 ?k5 ?kK ?kd ?ku ?_; (case k1 => k_asm); (case k2 => k_asm); (case k3 => k_asm); (case k4 => k_asm); (case k5 => k_asm); (case kK => first | exact rfl | assumption); (case kd => ktr_room); (case ku => ktr_units); intro r9 N9 h9 tk9 F9 M9 ho9; obtain ⟨tl9, hD9, eN9, hA9⟩ := ho9; subst eN9; (try dsimp only); (try k_fold))))
local macro_rules | `(tactic| walk_at "call ref") => `(tactic| (k_here; (with_reducible show wpAny _ _ (call (Value.ref 289) [Value.int _ _, Value.int _ _]) _ _ _); k_dflt (refine' Tell.use (ref_new _ _ _ _ _ _) ?k1 ?k2 ?k3 ?k4 ?k5 ?kK ?kd ?ku ?_; (case k1 => k_asm); (case k2 => k_asm); (case k3 => k_asm); (case k4 => k_asm); (case k5 => k_asm); (case kK => first | exact rfl | assumption); (case kd => ktr_room); (case ku => ktr_units); intro r9 N9 h9 tk9 F9 M9 ho9; obtain ⟨tl9, hD9, eN9, hA9⟩ := ho9; subst eN9; (try dsimp only); (try k_fold))))
section
set_option maxHeartbeats 4000000 in
theorem glyph_new (w : World) (t : Tok) {vx vy vw vs : Addr} {x y wd sz : Int} {N : Led} (d1 : DecAt N (.ref vx) x) (d2 : DecAt N (.ref vy) y) (d3 : DecAt N (.ref vw) wd) (d4 : DecAt N (.ref vs) sz) :
    Tell w 496 [.str (Str.ofString "a") t, .ref vx, .ref vy, .ref vw, .ref vs] 3 N (fun r N' => ∃ tl, GlyphAt (tl ++ N) r ⟨x, y, wd, sz⟩ ∧ N' = tl ++ N ∧ Above tl N) := by
  unfold Tell
  k_fill
  intro loose mean mg mb dp un gd cn cs a ccd cl outer A₀ base h₀ L m s Q E B F X N T hcs hd hu hret
  k_dflt (refine' call_cls ?k1 ?k2 ?k3 ?k4 ?k5 ?k6 ?_; (case k1 => k_asm); (case k2 => k_asm); (case k3 => k_asm); (case k4 => k_is); (case k5 => k_is); (case k6 => k_is); k_whole; intro x' d' h' F' N' l1 l2; (try k_lt l1); (try k_lt2 l2); (try k_sweep))
  k_dflt ktr_enter
  k_steps
  rename_i kF kN Tc kX
  refine hret _ _ _ _ kF kN ⟨[_, _], ⟨_, _, _, _, _, _, _, _, _, _, _, _, _, _, _, _, _, rfl, .head _, .tail _ (.head _), d1.mono ?_, d2.mono ?_, d3.mono ?_, d4.mono ?_⟩, rfl, above_two (allLt_of l1) l2⟩ <;> exact fun p hp => .tail _ (.tail _ hp)

theorem allBox {N N' : Led} {vs : List Value} {fs : List Four} (s : ∀ p ∈ N, p ∈ N') (h : AllR BoxAt N vs fs) : AllR BoxAt N' vs fs := AllR.monoR (fun _ _ h => BoxAt.mono s h) h
/-- the ledger bears at v a Find with these boxes -/
def FindAt (N : Led) (v : Value) (fs : List Four) : Prop :=
  ∃ a da t1 t2 u1 u2 u3 g1 g2 g3 bl bvs c, v = .ref a ∧ (a, instObj 436 da) ∈ N ∧
    (da, dictOf [⟨g1, .str (Str.ofString "first") u1, .int 0 t1⟩, ⟨g2, .str (Str.ofString "last") u2, .int 0 t2⟩, ⟨g3, .str (Str.ofString "boxes") u3, .ref bl⟩] 3) ∈ N ∧
    (bl, listOf (List.toArray bvs) c) ∈ N ∧ AllR BoxAt N bvs fs
theorem FindAt.mono {N N' : Led} {v : Value} {fs : List Four} (s : ∀ p ∈ N, p ∈ N') : FindAt N v fs → FindAt N' v fs
  | ⟨a, da, t1, t2, u1, u2, u3, g1, g2, g3, bl, bvs, c, e, h1, h2, h3, h4⟩ => ⟨a, da, t1, t2, u1, u2, u3, g1, g2, g3, bl, bvs, c, e, s _ h1, s _ h2, s _ h3, allBox s h4⟩
set_option maxHeartbeats 4000000 in
theorem find_new (w : World) (t t' : Tok) {bl : Addr} {bvs : List Value} {c : Nat} {fs : List Four} {N : Led} (d1 : (bl, listOf bvs.toArray c) ∈ N) (d2 : AllR BoxAt N bvs fs) :
    Tell w 436 [.int 0 t, .int 0 t', .ref bl] 3 N (fun r N' => ∃ tl, FindAt (tl ++ N) r fs ∧ N' = tl ++ N ∧ Above tl N) := by
  unfold Tell
  k_fill
  intro loose mean mg mb dp un gd cn cs a ccd cl outer A₀ base h₀ L m s Q E B F X N T hcs hd hu hret
  k_dflt (refine' call_cls ?k1 ?k2 ?k3 ?k4 ?k5 ?k6 ?_; (case k1 => k_asm); (case k2 => k_asm); (case k3 => k_asm); (case k4 => k_is); (case k5 => k_is); (case k6 => k_is); k_whole; intro x' d' h' F' N' l1 l2; (try k_lt l1); (try k_lt2 l2); (try k_sweep))
  k_dflt ktr_enter
  k_steps
  rename_i kF kN Tc kX
  exact hret _ _ _ _ kF kN ⟨[_, _], ⟨_, _, _, _, _, _, _, _, _, _, _, _, _, rfl, .head _, .tail _ (.head _), .tail _ (.tail _ d1), allBox (fun p hp => .tail _ (.tail _ hp)) d2⟩, rfl, above_two (allLt_of l1) l2⟩
end
local macro_rules | `(tactic| walk_at "call ref") => `(tactic| (k_here; (with_reducible show wpAny _ _ (call (Value.ref 496) [Value.str _ _, Value.ref _, Value.ref _, Value.ref _, Value.ref _]) _ _ _); k_dflt (refine' Tell.use (glyph_new _ _ ?d1 ?d2 ?d3 ?d4) ?k1 ?k2 ?k3 ?k4 ?k5 ?kK ?kd ?ku ?_; (case k1 => k_asm); (case k2 => k_asm); (case k3 => k_asm); (case k4 => k_asm); (case k5 => k_asm); (case kK => first | exact rfl | assumption); (case d1 => ktr_rel); (case d2 => ktr_rel); (case d3 => ktr_rel); (case d4 => ktr_rel); (case kd => ktr_room); (case ku => ktr_units); intro r9 N9 h9 tk9 F9 M9 ho9; obtain ⟨tl9, hD9, eN9, hA9⟩ := ho9; subst eN9; (try dsimp only); (try k_fold))))
local macro_rules | `(tactic| walk_at "call ref") => `(tactic| (k_here; (with_reducible show wpAny _ _ (call (Value.ref 436) [Value.int _ _, Value.int _ _, Value.ref _]) _ _ _); k_dflt (refine' Tell.use (find_new _ _ _ ?d1 ?d2) ?k1 ?k2 ?k3 ?k4 ?k5 ?kK ?kd ?ku ?_; (case k1 => k_asm); (case k2 => k_asm); (case k3 => k_asm); (case k4 => k_asm); (case k5 => k_asm); (case kK => first | exact rfl | assumption); (case d1 => k_mem); (case d2 => ktr_rel); (case kd => ktr_room); (case ku => ktr_units); intro r9 N9 h9 tk9 F9 M9 ho9; obtain ⟨tl9, hD9, eN9, hA9⟩ := ho9; subst eN9; (try dsimp only); (try k_fold))))
local macro_rules | `(tactic| ktr_rel) => `(tactic| (refine allBox ?kms (by assumption); (intro p9 hp9; k_mem)))
local macro_rules | `(tactic| kdv_enter) => `(tactic| (refine' code_def ?k1 ?k2 ?k3 ?k4 ?k5 ?kA ?kF ?kK ?k6 ?k7 ?k8 ?k9 ?kB ?_ ?c2 ?c3 ?c4 ?c5; (case kA => exact rfl); (case kF => exact rfl); (case kK => assumption); (case k1 => k_asm); (case k2 => k_asm); (case k3 => k_asm); (case k4 => k_asm); (case k5 => k_asm); (case k6 => k_is); (case k7 => k_is); (case k8 => ktr_room); (case k9 => exact binds_K (by k_in) rfl (by k_is) rfl rfl rfl); (case c5 => decide); (case kB => exact locs rfl); (case c2 => exact rfl); (case c3 => exact rfl); (case c4 => exact rfl); k_whole; intro g' L' h' FG' F' N' B' X' T'; (try dsimp only); (try k_fold)))
section
section
variable {prog : Program} {w : World} {A : Around} {E : Value → Shared → Prop} {s : Shared} {h₀ : Heap} {L d : Addr} {m : Str → Option Value} {news : Led} {o : Obj} {kvs : List (Int × Value)} {Q : Value → Shared → Prop}
theorem intsAre_of : ∀ (vs : List Value) (kvs : List (Int × Value)), vs.length = kvs.length → (∀ (j : Nat) (v : Value), vs[j]? = some v → ∃ (k : Int) (x : Value), kvs[j]? = some (k, x) ∧ (PySem.intKind prog w).is k v = true) → IntsAre vs (kvs.map (·.1))
  | [], [], _, _ => .nil
  | [], _ :: _, h, _ => by simp at h
  | _ :: _, [], h, _ => by simp at h
  | v :: r, q :: kr, h, hv => by
    obtain ⟨k, x, e, hk⟩ := hv 0 v rfl
    cases e
    obtain ⟨t, rfl⟩ := Value.isInt_shape hk
    exact .cons k t (intsAre_of r kr (by simpa using h) fun j u hu => by simpa using hv (j + 1) u (by simpa using hu))
theorem sortedI_mem (hh : A.handled = none) (F : Fr h₀ L s.heap m) (N : News h₀ L s.heap news) (lo : (d == sysModules) = false) (hm : (d, o) ∈ news) (hD : o.IsDictOf (PySem.intKind prog w) kvs) (hn : kvs.length < 60)
    (h : ∀ D c' h' tk vs' ns', Fr h₀ L h' m → News h₀ L h' ((D, listOf (List.toArray vs') c') :: news) → (∀ p ∈ news, @LT.lt Nat _ p.1 D) → IntsAre vs' ns' → ns'.Perm (kvs.map (·.1)) → ns'.Pairwise (· ≤ ·) → Q (.ref D) { s with heap := h', toks := tk }) :
    wpAny (model prog w) A (call (.builtin "sorted") [.ref d]) Q E s := by
  obtain ⟨ep, hat⟩ := (Heap.dictOf_iff.mpr ⟨o, N.get hm, hD⟩ : s.heap.DictOf (PySem.intKind prog w) d kvs).dictAt
  refine kdu_sorted (kdl_dict (knd := PySem.intKind prog w) (kvs := kvs) (ep := ep) lo) hh F N hat (by rw [sizeLine_eq]; omega) fun D h' tk vs F' N' l1 hl hv => ?_
  have hI : IntsAre vs (kvs.map (·.1)) := intsAre_of (prog := prog) (w := w) vs kvs hl hv
  have hd := (N' _ (.head _)).1
  refine wpAny_call_entry PyProof.Rows.slot_list_sort ⟨_, hd, rfl⟩ PyProof.Rows.entry_list_sort (list_sort_tree hd hI (by omega) fun out ns' h1 h2 h3 => ⟨_, rfl, ?_⟩) (args_list_sort _)
  obtain ⟨e1, he1⟩ := sortedHeap_at (out := out) hd
  have old : ∀ b o, b ≠ D → h'.get? b = some o → (sortedHeap h' D vs out).get? b = some o := fun b o hb e => by rw [sortedHeap_old hb (Heap.lt_size e)]; exact e
  have hDL := (N' _ (.head _)).2
  refine h D e1 _ tk _ ns' ⟨F'.ns.at' fun o e => old _ o (Ne.symm hDL.1) e, fun b o e => old b o (fun q => by rw [q, hDL.2] at e; cases e) (F'.keep b o e), F'.above⟩ (fun p hp => ?_) l1 h1 h2 h3
  rcases List.mem_cons.mp hp with rfl | hp
  · refine ⟨?_, hDL⟩
    rw [Array.toArray_toList]
    exact he1
  · exact ⟨old _ _ (Nat.ne_of_lt (l1 p hp)) (N' p (.tail _ hp)).1, (N' p (.tail _ hp)).2⟩
end
theorem sortedI_unique : ∀ {l l' : List Int}, l.Perm l' → l.Pairwise (· ≤ ·) → l'.Pairwise (· ≤ ·) → l = l' := by
  intro l
  induction l with
  | nil => intro l' p _ _; exact (List.nil_perm.mp p).symm
  | cons x r ih =>
    intro l' p h h'
    cases l' with
    | nil => exact absurd p (by simp)
    | cons y r' =>
      have e : x = y := by
        have hx : x ∈ y :: r' := p.mem_iff.mp (.head _)
        have hy : y ∈ x :: r := p.mem_iff.mpr (.head _)
        rcases List.mem_cons.mp hx with hx | hx
        · exact hx
        · rcases List.mem_cons.mp hy with hy | hy
          · exact hy.symm
          · exact Int.le_antisymm ((List.pairwise_cons.mp h).1 y hy) ((List.pairwise_cons.mp h').1 x hx)
      subst e
      rw [ih (List.perm_cons x |>.mp p) (List.pairwise_cons.mp h).2 (List.pairwise_cons.mp h').2]

/-- the kind of a table's keys -/
abbrev IK (w : World) := PySem.intKind PySem.Challenge.rw_pb0480_01.row.prog w
abbrev SK (w : World) := PySem.strKind PySem.Challenge.rw_pb0480_01.row.prog w
/-- an entry of the table: a generation and an object -/
def EntAt (N : Led) (v : Value) (g : Int) (u : Value) : Prop := ∃ t c tg, v = .ref t ∧ (t, tupO [.int g tg, u] c) ∈ N
theorem EntAt.mono {N N' : Led} {v u : Value} {g : Int} (s : ∀ p ∈ N, p ∈ N') : EntAt N v g u → EntAt N' v g u
  | ⟨t, c, tg, e, h⟩ => ⟨t, c, tg, e, s _ h⟩
/-- a Shelf, without what its table holds -/
def ShelfAt (N : Led) (sh tb tr : Addr) : Prop := ∃ da g1 g2 u1 u2, (sh, instObj 398 da) ∈ N ∧ (da, dictOf [⟨g1, .str (Str.ofString "table") u1, .ref tb⟩, ⟨g2, .str (Str.ofString "trailer") u2, .ref tr⟩] 2) ∈ N
theorem ShelfAt.mono {N N' : Led} {sh tb tr : Addr} (s : ∀ p ∈ N, p ∈ N') : ShelfAt N sh tb tr → ShelfAt N' sh tb tr
  | ⟨da, g1, g2, u1, u2, h1, h2⟩ => ⟨da, g1, g2, u1, u2, s _ h1, s _ h2⟩
/-- no Reference -/
def Plain : OV → Bool
  | .ref _ _ => false
  | _ => true

set_option maxHeartbeats 4000000 in
theorem shelf_new (w : World) (tb tr : Addr) (N : Led) :
    Tell w 398 [.ref tb, .ref tr] 3 N (fun r N' => ∃ sh tl, r = .ref sh ∧ ShelfAt tl sh tb tr ∧ N' = tl ++ N ∧ Above tl N) := by
  unfold Tell
  k_fill
  intro loose mean mg mb dp un gd cn cs a ccd cl outer A₀ base h₀ L m s Q E B F X N T hcs hd hu hret
  k_dflt (refine' call_cls ?k1 ?k2 ?k3 ?k4 ?k5 ?k6 ?_; (case k1 => k_asm); (case k2 => k_asm); (case k3 => k_asm); (case k4 => k_is); (case k5 => k_is); (case k6 => k_is); k_whole; intro x' d' h' F' N' l1 l2; (try k_lt l1); (try k_lt2 l2); (try k_sweep))
  k_dflt kdv_enter
  walk
  rename_i kF kN Tc kX
  exact hret _ _ _ _ kF kN ⟨_, [_, _], rfl, ⟨_, _, _, _, _, .head _, .tail _ (.head _)⟩, rfl, above_two (allLt_of l1) l2⟩
end
section
section
variable {prog : Program} {w : World} {A : Around} {E : Value → Shared → Prop} {s : Shared} {h₀ : Heap} {env : Env} {x : Str} {body : List Stmt} {Q : Flow → Shared → Prop}
theorem for_range {r : Addr} {b₀ : Int} {t₀ u₀ v₀ : Tok} {N : Nat} {m₀ : Str → Option Value} {news : Led} (J : Nat → (Str → Option Value) → Led → Prop)
    (hh : A.handled = none) (F : Fr h₀ env.locals s.heap m₀) (Nw : News h₀ env.locals s.heap news) (hr : IsRange s.heap r 0 b₀ 1 t₀ u₀ v₀) (hsm : Builtin.Range.small 0 b₀ 1 = true) (hn : Builtin.Range.rangeSize 0 b₀ 1 = ((N : Nat) : Int)) (h0 : J 0 m₀ news)
    (turn : ∀ I k m n it t h tk, (∀ p ∈ news, @LT.lt Nat _ p.1 I) → k < N → J k m n → Fr h₀ env.locals h (fun y => if y = x then some (.int ((k : Nat) : Int) t) else m y) → News h₀ env.locals h ((I, it) :: n) → (∀ p ∈ n, p.1 ≠ I) →
      wpAny (model prog w) A (execs body env) (TurnEnd h₀ env.locals { s with heap := h, toks := tk } I it (J (k + 1)) Q) E { s with heap := h, toks := tk })
    (done : ∀ m n h tk, J N m n → Fr h₀ env.locals h m → News h₀ env.locals h n → Q .next { s with heap := h, toks := tk }) :
    wpAny (model prog w) A (pyIter (.ref r)) (fun it s₂ => LoopAtV prog w A h₀ env x body Q E it s₂) E s := by
  refine krs_iter hh hr hsm hn F Nw fun I hI => ?_
  have key : ∀ (j i : Nat) (m : Str → Option Value) (n : Led), i + j = N → J i m n → (∀ p ∈ n, p.1 ≠ I) → KrsRest prog w A E h₀ env x body Q s I 0 1 N j i m n := by
    intro j
    induction j with
    | zero =>
      intro i m n e hJ _
      rw [Nat.add_zero] at e; subst e
      exact KrsRest.zero fun h tk F N => done m n h tk hJ F N
    | succ j ih =>
      intro i m n e hJ hI'
      refine KrsRest.succ (v := (i : Int)) (by omega) fun t h tk F N₂ => ?_
      refine wpAny_mono (turn I i m n _ t h tk hI (by omega) hJ F N₂ hI') (fun f s₃ h₃ => ?_) fun _ _ e => e
      have nx : (∃ h' tk' m' n', s₃ = { ({ s with heap := h, toks := tk } : Shared) with heap := h', toks := tk' } ∧ Fr h₀ env.locals h' m' ∧ News h₀ env.locals h' ((I, krsIt (0 + ((i + 1 : Nat) : Int) * 1) ((N : Int) - ((i + 1 : Nat) : Int)) 1) :: n') ∧ (∀ p ∈ n', p.1 ≠ I) ∧ J (i + 1) m' n') →
          UnrEnd h₀ env.locals { s with heap := h, toks := tk } I (krsIt (0 + ((i + 1 : Nat) : Int) * 1) ((N : Int) - ((i + 1 : Nat) : Int)) 1) (KrsRest prog w A E h₀ env x body Q s I 0 1 N j (i + 1)) s₃ := by
        rintro ⟨h', tk', m', n', rfl, F', N', hI'', hJ'⟩
        exact ⟨h', tk', m', n', rfl, F', N', hI'', ih (i + 1) m' n' (by omega) hJ' hI''⟩
      cases f with
      | ret v => exact h₃
      | brk => exact h₃
      | next => exact nx h₃
      | cont => exact nx h₃
  exact key N 0 m₀ news (by omega) h0 fun p hp => Nat.ne_of_lt (hI p hp)
theorem turn_ret {L : Addr} {I : Addr} {it : Obj} {J : (Str → Option Value) → Led → Prop} {v : Value} {s₃ : Shared} (h : Q (.ret v) s₃) : TurnEnd h₀ L s I it J Q (.ret v) s₃ := h
/-- a for over a range that ends at its second turn -/
theorem for_range_two {r : Addr} {b₀ : Int} {t₀ u₀ v₀ : Tok} (N : Nat) {m₀ : Str → Option Value} {news : Led} (J : (Str → Option Value) → Led → Prop)
    (hh : A.handled = none) (F : Fr h₀ env.locals s.heap m₀) (Nw : News h₀ env.locals s.heap news) (hr : IsRange s.heap r 0 b₀ 1 t₀ u₀ v₀) (hsm : Builtin.Range.small 0 b₀ 1 = true) (hn : Builtin.Range.rangeSize 0 b₀ 1 = ((N : Nat) : Int)) (h2 : 2 ≤ N)
    (one : ∀ I it t h tk, (∀ p ∈ news, @LT.lt Nat _ p.1 I) → Fr h₀ env.locals h (fun y => if y = x then some (.int 0 t) else m₀ y) → News h₀ env.locals h ((I, it) :: news) → (∀ p ∈ news, p.1 ≠ I) →
      wpAny (model prog w) A (execs body env) (TurnEnd h₀ env.locals { s with heap := h, toks := tk } I it J Q) E { s with heap := h, toks := tk })
    (two : ∀ I m n it t h tk, J m n → Fr h₀ env.locals h (fun y => if y = x then some (.int 1 t) else m y) → News h₀ env.locals h ((I, it) :: n) → (∀ p ∈ n, p.1 ≠ I) →
      wpAny (model prog w) A (execs body env) (TurnEnd h₀ env.locals { s with heap := h, toks := tk } I it (fun _ _ => False) Q) E { s with heap := h, toks := tk }) :
    wpAny (model prog w) A (pyIter (.ref r)) (fun it s₂ => LoopAtV prog w A h₀ env x body Q E it s₂) E s := by
  refine for_range (fun k m n => (k = 0 ∧ m = m₀ ∧ n = news) ∨ (k = 1 ∧ J m n)) hh F Nw hr hsm hn (.inl ⟨rfl, rfl, rfl⟩) ?_ ?_
  · rintro I k m n it t h tk hI hk (⟨rfl, rfl, rfl⟩ | ⟨rfl, hJ⟩) F2 N2 hoff
    · refine wpAny_mono (one I it t h tk hI F2 N2 hoff) (fun f s₃ h₃ => ?_) fun _ _ e => e
      cases f with
      | ret v => exact h₃
      | brk => exact h₃
      | next => obtain ⟨h', tk', m', n', a, b, c, d, e⟩ := h₃; exact ⟨h', tk', m', n', a, b, c, d, .inr ⟨rfl, e⟩⟩
      | cont => obtain ⟨h', tk', m', n', a, b, c, d, e⟩ := h₃; exact ⟨h', tk', m', n', a, b, c, d, .inr ⟨rfl, e⟩⟩
    · refine wpAny_mono (two I m n it t h tk hJ F2 N2 hoff) (fun f s₃ h₃ => ?_) fun _ _ e => e
      cases f with
      | ret v => exact h₃
      | brk => exact h₃
      | next => obtain ⟨_, _, _, _, _, _, _, _, e⟩ := h₃; exact e.elim
      | cont => obtain ⟨_, _, _, _, _, _, _, _, e⟩ := h₃; exact e.elim
  · rintro m n h tk (⟨rfl, _⟩ | ⟨rfl, _⟩) <;> omega
end
/-- a value that is no Reference: none, or an object of the paper -/
inductive PlainV (w : World) (N : Led) : Value → Prop
  | none : PlainV w N .none
  | obj {v : Value} {o : OV} : OvAt w N v o → Plain o = true → PlainV w N v
theorem PlainV.mono {w : World} {N N' : Led} {v : Value} (s : ∀ p ∈ N, p ∈ N') : PlainV w N v → PlainV w N' v
  | .none => .none
  | .obj h p => .obj (h.mono s) p

set_option maxHeartbeats 4000000 in
theorem fetch_obj (w : World) {sh tb tr : Addr} {v : Value} {N : Led} (hS : ShelfAt N sh tb tr) {o : OV} (ho : OvAt w N v o) (hp : Plain o = true) :
    Tell w 334 [.ref sh, v] 1 N (fun r N' => r = v ∧ ∃ tl, N' = tl ++ N ∧ Above tl N) := by
  unfold Tell
  k_fill
  intro loose mean mg mb dp un gd cn cs a0 ccd cl outer A₀ base h₀ L m s Q E B F X Nw T hcs hd hu hret
  cases ho with
  | int n t0 =>
    refine wpAny_call ?_
    k_dflt ktr_enter
    walk
    walk1
    walk
    rename IsRange _ _ _ _ _ _ _ _ => hr
    rename Fr _ _ _ _ => F1
    rename News _ _ _ _ => N1
    with_unfolding_all refine for_range_two 30 (fun _ _ => False) rfl F1 N1 hr (by decide) (by decide) (by decide) ?_ (fun _ _ _ _ _ _ _ h => h.elim)
    intro I it t h tk hI F2 N2 hoff
    walk
    refine turn_ret ?_
    walk
    rename_i kF kN Tc kX
    obtain ⟨tl, hA, hs, hN⟩ := grown (N := N) kN (by intro p hp; k_mem)
    exact hret _ _ _ _ kF hN ⟨rfl, tl, rfl, hA⟩
  | real hd' =>
    obtain ⟨x1, dx1, _, _, _, _, _, _, e1, hx1, hdx1⟩ := id hd'
    cases e1
    refine wpAny_call ?_
    k_dflt ktr_enter
    walk
    walk1
    walk
    rename IsRange _ _ _ _ _ _ _ _ => hr
    rename Fr _ _ _ _ => F1
    rename News _ _ _ _ => N1
    with_unfolding_all refine for_range_two 30 (fun _ _ => False) rfl F1 N1 hr (by decide) (by decide) (by decide) ?_ (fun _ _ _ _ _ _ _ h => h.elim)
    intro I it t h tk hI F2 N2 hoff
    walk
    refine turn_ret ?_
    walk
    rename_i kF kN Tc kX
    obtain ⟨tl, hA, hs, hN⟩ := grown (N := N) kN (by intro p hp; k_mem)
    exact hret _ _ _ _ kF hN ⟨rfl, tl, rfl, hA⟩
  | name h1 h2 =>
    refine wpAny_call ?_
    k_dflt ktr_enter
    walk
    walk1
    walk
    rename IsRange _ _ _ _ _ _ _ _ => hr
    rename Fr _ _ _ _ => F1
    rename News _ _ _ _ => N1
    with_unfolding_all refine for_range_two 30 (fun _ _ => False) rfl F1 N1 hr (by decide) (by decide) (by decide) ?_ (fun _ _ _ _ _ _ _ h => h.elim)
    intro I it t h tk hI F2 N2 hoff
    walk
    refine turn_ret ?_
    walk
    rename_i kF kN Tc kX
    obtain ⟨tl, hA, hs, hN⟩ := grown (N := N) kN (by intro p hp; k_mem)
    exact hret _ _ _ _ kF hN ⟨rfl, tl, rfl, hA⟩
  | ref h1 h2 => cases hp
  | arr h1 h2 =>
    refine wpAny_call ?_
    k_dflt ktr_enter
    walk
    walk1
    walk
    rename IsRange _ _ _ _ _ _ _ _ => hr
    rename Fr _ _ _ _ => F1
    rename News _ _ _ _ => N1
    with_unfolding_all refine for_range_two 30 (fun _ _ => False) rfl F1 N1 hr (by decide) (by decide) (by decide) ?_ (fun _ _ _ _ _ _ _ h => h.elim)
    intro I it t h tk hI F2 N2 hoff
    walk
    refine turn_ret ?_
    walk
    rename_i kF kN Tc kX
    obtain ⟨tl, hA, hs, hN⟩ := grown (N := N) kN (by intro p hp; k_mem)
    exact hret _ _ _ _ kF hN ⟨rfl, tl, rfl, hA⟩
  | dict lo h1 h2 =>
    refine wpAny_call ?_
    k_dflt ktr_enter
    walk
    walk1
    walk
    rename IsRange _ _ _ _ _ _ _ _ => hr
    rename Fr _ _ _ _ => F1
    rename News _ _ _ _ => N1
    with_unfolding_all refine for_range_two 30 (fun _ _ => False) rfl F1 N1 hr (by decide) (by decide) (by decide) ?_ (fun _ _ _ _ _ _ _ h => h.elim)
    intro I it t h tk hI F2 N2 hoff
    walk
    refine turn_ret ?_
    walk
    rename_i kF kN Tc kX
    obtain ⟨tl, hA, hs, hN⟩ := grown (N := N) kN (by intro p hp; k_mem)
    exact hret _ _ _ _ kF hN ⟨rfl, tl, rfl, hA⟩
end
section
set_option maxHeartbeats 4000000 in
theorem fetch_none (w : World) {sh tb tr : Addr} {N : Led} (hS : ShelfAt N sh tb tr) :
    Tell w 334 [.ref sh, .none] 1 N (fun r N' => r = .none ∧ ∃ tl, N' = tl ++ N ∧ Above tl N) := by
  unfold Tell
  k_fill
  intro loose mean mg mb dp un gd cn cs a0 ccd cl outer A₀ base h₀ L m s Q E B F X Nw T hcs hd hu hret
  refine wpAny_call ?_
  k_dflt ktr_enter
  walk
  walk1
  walk
  rename IsRange _ _ _ _ _ _ _ _ => hr
  rename Fr _ _ _ _ => F1
  rename News _ _ _ _ => N1
  with_unfolding_all refine for_range_two 30 (fun _ _ => False) rfl F1 N1 hr (by decide) (by decide) (by decide) ?_ (fun _ _ _ _ _ _ _ h => h.elim)
  intro I it t h tk hI F2 N2 hoff
  walk
  refine turn_ret ?_
  walk
  rename_i kF kN Tc kX
  obtain ⟨tl, hA, hs, hN⟩ := grown (N := N) kN (by intro p hp; k_mem)
  exact hret _ _ _ _ kF hN ⟨rfl, tl, rfl, hA⟩
theorem fetch_plain (w : World) {sh tb tr : Addr} {v : Value} {N : Led} (hS : ShelfAt N sh tb tr) (hp : PlainV w N v) :
    Tell w 334 [.ref sh, v] 1 N (fun r N' => r = v ∧ ∃ tl, N' = tl ++ N ∧ Above tl N) := by
  cases hp with
  | none => exact fetch_none w hS
  | obj h p => exact fetch_obj w hS h p

section
variable {prog : Program} {w : World} {A : Around} {E : Value → Shared → Prop} {s : Shared} {h₀ : Heap} {L d : Addr} {news : Led} {o : Obj} {kvs : List (Int × Value)} {k : Int} {t : Tok} {v dflt : Value} {Q : Value → Shared → Prop}
theorem iget2_mem (N : News h₀ L s.heap news) (hm : (d, o) ∈ news) (hD : o.IsDictOf (PySem.intKind prog w) kvs) (lo : (d == sysModules) = false) (hk : valueAt kvs k = some v) (h : Q v { s with toks := s.toks + 1 }) :
    wpAny (model prog w) A (call (.builtin "dict.get") [.ref d, .int k t, dflt]) Q E s :=
  kdg_get2 N hm hD lo (intKind_is _ _ _ _) (some v) hk h
end

set_option maxHeartbeats 8000000 in
theorem fetch_ref (w : World) {sh tb tr : Addr} {v u ev : Value} {n g : Int} {ot : Obj} {kvs : List (Int × Value)} {N : Led} (hS : ShelfAt N sh tb tr) (hv : OvAt w N v (.ref n g)) (hm : (tb, ot) ∈ N) (hD : ot.IsDictOf (IK w) kvs) (lo : (tb == sysModules) = false)
    (hk : valueAt kvs n = some ev) (he : EntAt N ev g u) (hu' : PlainV w N u) :
    Tell w 334 [.ref sh, v] 1 N (fun r N' => r = u ∧ ∃ tl, N' = tl ++ N ∧ Above tl N) := by
  unfold Tell
  k_fill
  intro loose mean mg mb dp un gd cn cs a0 ccd cl outer A₀ base h₀ L m s Q E B F X Nw T hcs hd hu hret
  obtain ⟨da, g1, g2, u1, u2, hs1, hs2⟩ := id hS
  obtain ⟨et, ec, etg, rfl, he⟩ := he
  cases hv with
  | ref h1 h2 =>
    refine wpAny_call ?_
    k_dflt ktr_enter
    walk
    walk1
    walk
    rename IsRange _ _ _ _ _ _ _ _ => hr
    rename Fr _ _ _ _ => F1
    rename News _ _ _ _ => N1
    with_unfolding_all refine for_range_two 30 (fun mm nn => ∃ mr : Str → Option Value, mm = (fun y => if y = Str.ofString "here" then some u else mr y) ∧ ∀ p ∈ N, p ∈ nn) rfl F1 N1 hr (by decide) (by decide) (by decide) ?_ ?_
    · intro I it t h tk hI F2 N2 hoff
      walk
      k_dflt (refine kdg_method (knd := IK w) (by k_asm) (by k_mem) hD ?_)
      walk
      k_dflt (refine iget2_mem (by k_asm) (by k_mem) hD lo hk ?_)
      walk
      · rename (g ≠ g) => hne
        exact absurd rfl hne
      · rename Fr _ _ _ _ => F3
        rename News _ _ _ _ => N3
        rename (_ < _ ∧ _) => l1
        exact turn_next (tl9 := [_]) F3 N3 (above_one l1) hoff ⟨_, rfl, fun p hp => .tail _ hp⟩
    · rintro I m' n' it t h tk ⟨mr, rfl, hsub⟩ F2 N2 hoff
      have hu2 : PlainV w n' u := hu'.mono hsub
      clear hu'
      cases hu2 with
      | none =>
        walk
        refine turn_ret ?_
        walk
        rename_i kF kN Tc kX
        obtain ⟨tl, hA, hs, hN⟩ := grown (N := N) kN (by intro p hp; have hpp := hsub p hp; k_mem)
        exact hret _ _ _ _ kF hN ⟨rfl, tl, rfl, hA⟩
      | obj ho hp =>
       cases ho with
       | int n t0 =>
        walk
        refine turn_ret ?_
        walk
        rename_i kF kN Tc kX
        obtain ⟨tl, hA, hs, hN⟩ := grown (N := N) kN (by intro p hp; have hpp := hsub p hp; k_mem)
        exact hret _ _ _ _ kF hN ⟨rfl, tl, rfl, hA⟩
       | real hd' =>
        obtain ⟨x1, dx1, _, _, _, _, _, _, e1, hx1, hdx1⟩ := id hd'
        cases e1
        walk
        refine turn_ret ?_
        walk
        rename_i kF kN Tc kX
        obtain ⟨tl, hA, hs, hN⟩ := grown (N := N) kN (by intro p hp; have hpp := hsub p hp; k_mem)
        exact hret _ _ _ _ kF hN ⟨rfl, tl, rfl, hA⟩
       | name h1 h2 =>
        walk
        refine turn_ret ?_
        walk
        rename_i kF kN Tc kX
        obtain ⟨tl, hA, hs, hN⟩ := grown (N := N) kN (by intro p hp; have hpp := hsub p hp; k_mem)
        exact hret _ _ _ _ kF hN ⟨rfl, tl, rfl, hA⟩
       | ref h1 h2 => cases hp
       | arr h1 h2 =>
        walk
        refine turn_ret ?_
        walk
        rename_i kF kN Tc kX
        obtain ⟨tl, hA, hs, hN⟩ := grown (N := N) kN (by intro p hp; have hpp := hsub p hp; k_mem)
        exact hret _ _ _ _ kF hN ⟨rfl, tl, rfl, hA⟩
       | dict lo h1 h2 =>
        walk
        refine turn_ret ?_
        walk
        rename_i kF kN Tc kX
        obtain ⟨tl, hA, hs, hN⟩ := grown (N := N) kN (by intro p hp; have hpp := hsub p hp; k_mem)
        exact hret _ _ _ _ kF hN ⟨rfl, tl, rfl, hA⟩
/-- what fetch gives back -/
def Fetches (w : World) (N : Led) (tb : Addr) (v u : Value) : Prop :=
  PlainV w N u ∧ (v = u ∨ ∃ n g ot kvs ev, OvAt w N v (.ref n g) ∧ (tb, ot) ∈ N ∧ ot.IsDictOf (IK w) kvs ∧ (tb == sysModules) = false ∧ valueAt kvs n = some ev ∧ EntAt N ev g u)
theorem Fetches.mono {w : World} {N N' : Led} {tb : Addr} {v u : Value} (s : ∀ p ∈ N, p ∈ N') : Fetches w N tb v u → Fetches w N' tb v u
  | ⟨h, .inl e⟩ => ⟨h.mono s, .inl e⟩
  | ⟨h, .inr ⟨n, g, ot, kvs, ev, a, b, c, d, e, f⟩⟩ => ⟨h.mono s, .inr ⟨n, g, ot, kvs, ev, a.mono s, s _ b, c, d, e, f.mono s⟩⟩
theorem fetch_tell (w : World) {sh tb tr : Addr} {v u : Value} {N : Led} (hS : ShelfAt N sh tb tr) (hF : Fetches w N tb v u) :
    Tell w 334 [.ref sh, v] 1 N (fun r N' => r = u ∧ ∃ tl, N' = tl ++ N ∧ Above tl N) := by
  obtain ⟨h, rfl | ⟨n, g, ot, kvs, ev, a, b, c, d, e, f⟩⟩ := hF
  · exact fetch_plain w hS h
  · exact fetch_ref w hS a b c d e f h
end
local macro_rules | `(tactic| walk_at "call ref") => `(tactic| (k_here; (with_reducible show wpAny _ _ (call (Value.ref 334) [Value.ref _, _]) _ _ _); k_dflt (refine' Tell.use (fetch_tell _ ?hS ?hF) ?k1 ?k2 ?k3 ?k4 ?k5 ?kK ?kd ?ku ?_; (case k1 => k_asm); (case k2 => k_asm); (case k3 => k_asm); (case k4 => k_asm); (case k5 => k_asm); (case kK => first | exact rfl | assumption); (case hF => ktr_rel); (case hS => ktr_rel); (case kd => ktr_room); (case ku => ktr_units); intro r9 N9 h9 tk9 F9 M9 ho9; obtain ⟨er9, tl9, eN9, hA9⟩ := ho9; subst er9; subst eN9; (try dsimp only); (try k_fold))))
local macro_rules | `(tactic| ktr_rel) => `(tactic| (refine Fetches.mono ?kms (by assumption); (intro p9 hp9; k_mem)))
local macro_rules | `(tactic| ktr_rel) => `(tactic| (refine ShelfAt.mono ?kms (by assumption); (intro p9 hp9; k_mem)))
section
theorem sget1_mem {prog : Program} {w : World} {A : Around} {E : Value → Shared → Prop} {s : Shared} {h₀ : Heap} {L d : Addr} {news : Led} {o : Obj} {kvs : List (Str × Value)} {k : Str} {t : Tok} {Q : Value → Shared → Prop} (N : News h₀ L s.heap news) (hm : (d, o) ∈ news) (hD : o.IsDictOf (PySem.strKind prog w) kvs) (lo : (d == sysModules) = false) (h : Q ((valueAt kvs k).getD .none) { s with toks := s.toks + 1 }) :
    wpAny (model prog w) A (call (.builtin "dict.get") [.ref d, .str k t]) Q E s :=
  kdg_get1 N hm hD lo (strKind_is _ _ _ _) (valueAt kvs k) rfl h
set_option maxHeartbeats 4000000 in
theorem get_tell (w : World) {sh tb tr hd : Addr} {key : Str} {t : Tok} {u : Value} {oh : Obj} {hkvs : List (Str × Value)} {N : Led} (hS : ShelfAt N sh tb tr) (hm : (hd, oh) ∈ N) (hD : oh.IsDictOf (SK w) hkvs) (lo : (hd == sysModules) = false)
    (hF : Fetches w N tb ((valueAt hkvs key).getD .none) u) :
    Tell w 341 [.ref sh, .ref hd, .str key t] 2 N (fun r N' => r = u ∧ ∃ tl, N' = tl ++ N ∧ Above tl N) := by
  unfold Tell
  k_fill
  intro loose mean mg mb dp un gd cn cs a0 ccd cl outer A₀ base h₀ L m s Q E B F X Nw T hcs hd' hu hret
  obtain ⟨da, g1, g2, u1, u2, hs1, hs2⟩ := id hS
  refine wpAny_call ?_
  k_dflt ktr_enter
  walk
  k_dflt (refine kdg_method (knd := SK w) (by k_asm) (by k_mem) hD ?_)
  walk
  k_dflt (refine sget1_mem (by k_asm) (by k_mem) hD lo ?_)
  walk
  rename_i kF kN Tc kX
  obtain ⟨tl, hA, hs, hN⟩ := grown (N := N) kN (by intro p hp; k_mem)
  exact hret _ _ _ _ kF hN ⟨rfl, tl, rfl, hA⟩

theorem swap2 (a b : Addr × Obj) (M : Led) : ∀ p ∈ a :: ([b] ++ M), p ∈ b :: a :: M := fun p hp => by
  simp only [List.mem_cons, List.mem_append, List.not_mem_nil, or_false] at hp ⊢
  rcases hp with h | h | h
  · exact .inr (.inl h)
  · exact .inl h
  · exact .inr (.inr h)
theorem swap3 (a b : Addr × Obj) (tl M : Led) : ∀ p ∈ a :: ((tl ++ [b]) ++ M), p ∈ tl ++ b :: a :: M := fun p hp => by
  simp only [List.mem_cons, List.mem_append, List.not_mem_nil, or_false] at hp ⊢
  rcases hp with h | (h | h) | h
  · exact .inr (.inr (.inl h))
  · exact .inl h
  · exact .inr (.inl h)
  · exact .inr (.inr (.inr h))
set_option maxHeartbeats 4000000 in
theorem put_tell (w : World) {sh tb tr : Addr} {n g : Int} {t t' : Tok} {v : Value} {ot : Obj} {kvs : List (Int × Value)} {M : Led} (hS : ShelfAt M sh tb tr) (hD : ot.IsDictOf (IK w) kvs) (hz : kvs.length < 60) (hoff : ∀ p ∈ M, p.1 ≠ tb) :
    Tell w 362 [.ref sh, .int n t, .int g t', v] 1 ((tb, ot) :: M) (fun r N' => ∃ ev ot' tl, r = .none ∧ EntAt tl ev g v ∧ ot'.IsDictOf (IK w) (stored kvs n ev) ∧ N' = (tb, ot') :: (tl ++ M) ∧ Above tl ((tb, ot') :: M)) := by
  unfold Tell
  k_fill
  intro loose mean mg mb dp un gd cn cs a0 ccd cl outer A₀ base h₀ L m s Q E B F X Nw T hcs hd' hu hret
  obtain ⟨da, g1, g2, u1, u2, hs1, hs2⟩ := id hS
  refine wpAny_call ?_
  k_dflt ktr_enter
  walk
  rename (_ < _ ∧ _) => l1
  k_dflt (refine kda_set (knd := IK w) (by k_asm) (by k_asm) (.tail (Ne.symm (Nat.ne_of_lt l1.1)) (.head hoff)) hD (intKind_is _ _ _ _) (by rw [sizeLine_eq]; omega) ?_)
  intro h' ot' F' N' hD'
  walk
  rename_i kF kN Tc kX
  exact hret _ _ _ _ kF (newsSub kN (swap2 _ _ _)) ⟨_, ot', [_], rfl, ⟨_, _, _, rfl, .head _⟩, hD', rfl, above_one l1⟩

theorem free_key : ∀ kvs : List (Int × Value), ∃ K : Int, 1 ≤ K ∧ ∀ k, K ≤ k → valueAt kvs k = none
  | [] => ⟨1, Int.le_refl _, fun _ _ => rfl⟩
  | (a, v) :: r => by
    obtain ⟨K, h1, h2⟩ := free_key r
    refine ⟨max K (a + 1), by omega, fun k hk => ?_⟩
    have hne : a ≠ k := by omega
    have := h2 k (by omega)
    unfold valueAt at this ⊢
    simpa [hne] using this
theorem While_add {prog : Program} {w : World} {A : Around} {E : Value → Shared → Prop} {Q : Flow → Shared → Prop} {s : Shared} {env : Env} {h₀ : Heap} {L : Addr} {o : Obj} {kvs : List (Int × Value)} {i : Str} {test e : PySem.Expr} {p p' pa pb pos : Pos} {m : Str → Option Value} {news : Led} {t₀ : Tok}
    (_ : o.IsDictOf (PySem.intKind prog w) kvs) (F : Fr h₀ L s.heap m) (Nw : News h₀ L s.heap news) (hmi : m i = some (.int 1 t₀))
    (gtest : ∀ k t h₁ tk₁, 1 ≤ k → Fr h₀ L h₁ (bindM m i (some (.int k t))) → News h₀ L h₁ news →
      wpAny (model prog w) A (isTrue test env (eval test env)) (fun b s₂ => b = (valueAt kvs k).isSome ∧ Keeps { s with heap := h₁, toks := tk₁ } s₂) E { s with heap := h₁, toks := tk₁ })
    (gturn : ∀ k t h₁ tk₁, 1 ≤ k → Fr h₀ L h₁ (bindM m i (some (.int k t))) → News h₀ L h₁ news →
      wpAny (model prog w) A (execs [.Assign [.Name i p] (.BinOp (.Name i p') .Add e pb) pa] env) (CntStep h₀ L s m i news (k + 1)) E { s with heap := h₁, toks := tk₁ })
    (done : ∀ k t h' tk, valueAt kvs k = none → Fr h₀ L h' (bindM m i (some (.int k t))) → News h₀ L h' news → Q .next { s with heap := h', toks := tk })
    (hE : PassesOwn (model prog w) A env E := by passes_own) :
    wpAny (model prog w) A (exec (.While test [.Assign [.Name i p] (.BinOp (.Name i p') .Add e pb) pa] [] pos) env) Q E s := by
  obtain ⟨K, h1, h2⟩ := free_key kvs
  exact While_up (c := fun k => (valueAt kvs k).isSome) (K := K) F Nw hmi gtest (fun k t h tk a _ => gturn k t h tk a) ⟨h1, by show (valueAt kvs K).isSome = false; rw [h2 K (Int.le_refl _)]; rfl⟩ (fun k t h' tk _ _ _ hc _ F N => done k t h' tk (by simpa using hc) F N) hE
local macro_rules | `(tactic| walk_at "exec While") => `(tactic| ((with_reducible rename Fr _ _ _ _ => F9); (with_reducible rename News _ _ _ _ => N9); (with_reducible rename Obj.IsDictOf (IK _) _ _ => hD9); (with_reducible refine' While_add hD9 ?F ?Nw ?hmi ?gtest ?gturn ?done); (case F => with_unfolding_all exact F9); (case Nw => with_unfolding_all exact N9); (case hmi => with_unfolding_all rfl); (case' done => intro k5 t5 h5 tk5 hk5 F5 N5); (case' gturn => intro k5 t5 h5 tk5 hk5 F5 N5); (case' gtest => (intro k5 t5 h5 tk5 hk5 F5 N5; refine wpAny_leafK ?_; refine markB ?_; intro _))))

set_option maxHeartbeats 4000000 in
theorem add_tell (w : World) {sh tb tr : Addr} {v : Value} {ot : Obj} {kvs : List (Int × Value)} {M : Led} (hS : ShelfAt M sh tb tr) (hD : ot.IsDictOf (IK w) kvs) (lo : (tb == sysModules) = false) (hz : kvs.length < 60) (hoff : ∀ p ∈ M, p.1 ≠ tb) :
    Tell w 369 [.ref sh, v] 4 ((tb, ot) :: M) (fun r N' => ∃ n ev ot' tl, valueAt kvs n = none ∧ OvAt w tl r (.ref n 0) ∧ EntAt tl ev 0 v ∧ ot'.IsDictOf (IK w) (stored kvs n ev) ∧ N' = (tb, ot') :: (tl ++ M) ∧ Above tl ((tb, ot') :: M)) := by
  unfold Tell
  k_fill
  intro loose mean mg mb dp un gd cn cs a0 ccd cl outer A₀ base h₀ L m s Q E B F X Nw T hcs hd' hu hret
  have hD9 := hD
  obtain ⟨da, g1, g2, u1, u2, hs1, hs2⟩ := id hS
  refine wpAny_call ?_
  k_dflt ktr_enter
  walk
  all_goals first | (k_dflt (refine kda_in (knd := IK w) (by k_asm) (by k_mem) (by assumption) lo (intKind_is _ _ _ _) _ rfl ?_)) | skip
  all_goals walk
  rename (_ < _ ∧ _) => l1
  rename (valueAt _ _ = none) => hnone
  k_dflt (refine kda_set (knd := IK w) (by k_asm) (by k_asm) (.tail (Ne.symm (Nat.ne_of_lt l1.1)) (.head hoff)) (by assumption) (intKind_is _ _ _ _) (by rw [sizeLine_eq]; omega) ?_)
  intro h' ot' F' N' hD'
  walk
  rename_i kF kN Tc kX
  rename OvAt _ _ _ (.ref _ _) => hO
  rename Above _ (_ :: _ :: M) => hA
  exact hret _ _ _ _ kF (newsSub kN (swap3 _ _ _ _)) ⟨_, _, ot', _ ++ [_], hnone, hO.mono fun p hp => inL hp, ⟨_, _, _, rfl, inR (.head _)⟩, hD', rfl, above_trans (above_one l1) hA⟩
end
section
local macro_rules | `(tactic| walk) => `(tactic| repeat' (first | ((fail_if_success (first | (with_reducible show wpAny _ _ (subscriptTail _ (PySem.Expr.Name _ _) (Value.ref _) (Value.int _ _)) _ _ _) | (with_reducible show wpAny _ _ (subscriptTail _ _ (Value.ref _) (Value.str _ _)) _ _ _) | (with_reducible show wpAny _ _ (call (Value.ref 312) _) _ _ _) | (with_reducible show EltEnd _ _ _ _ _ _ _ _ _ _) | (with_reducible show LCt.CompSrcT _ _ _ _ _ _ _ _ _ _ _ _ _ _ _) | (with_reducible show LCg.CompSrc _ _ _ _ _ _ _ _ _ _ _ _ _ _) | (with_reducible show LCg.CompEnd _ _ _ _ _ _ _ _ _ _ _ _ _ _) | (with_reducible show LCg.FinE _ _ _ _ _ _ _) | (with_reducible show LCg.FinA _ _ _ _ _ _ _ _) | (with_reducible show TurnEnd _ _ _ _ _ _ _ _ _) | (with_reducible show wpAny _ _ (pyIter _) _ _ _) | (with_reducible show wpAny _ _ (exec (Stmt.For _ _ _ _ _) _) _ _ _) | (with_reducible show wpAny _ _ (eval (Expr.ListComp _ _ _ _) _) _ _ _) | (with_reducible show wpAny _ _ (exec (Stmt.Assign _ (Expr.ListComp _ _ _ _) _) _) _ _ _))); (first | (k_unfold; (try dsimp only)) | (k_end; wrow_close) | walk1 | (dsimp only; walk1) | (leave1; walk_say "STEP leave1"; try dsimp only))) | fail "no step"))
set_option maxHeartbeats 4000000 in
theorem numbers_tell (w : World) {sh tb tr : Addr} {ot : Obj} {kvs : List (Int × Value)} {N : Led} (hS : ShelfAt N sh tb tr) (hm : (tb, ot) ∈ N) (hD : ot.IsDictOf (IK w) kvs) (lo : (tb == sysModules) = false) (hz : kvs.length < 60) (hs : (kvs.map (·.1)).Pairwise (· ≤ ·)) :
    Tell w 383 [.ref sh] 2 N (fun r N' => ∃ D c vs tl, r = .ref D ∧ (D, listOf (List.toArray vs) c) ∈ tl ∧ IntsAre vs (kvs.map (·.1)) ∧ N' = tl ++ N ∧ Above tl N) := by
  unfold Tell
  k_fill
  intro loose mean mg mb dp un gd cn cs a0 ccd cl outer A₀ base h₀ L m s Q E B F X Nw T hcs hd' hu hret
  obtain ⟨da, g1, g2, u1, u2, hs1, hs2⟩ := id hS
  refine wpAny_call ?_
  k_dflt ktr_enter
  walk
  k_dflt (refine sortedI_mem (by rfl) (by k_asm) (by k_asm) lo (by k_mem) hD hz ?_)
  intro D5 c5 h5 tk5 vs5 ns5 F5 N5 l5 hI5 hp5 hs5
  have e5 : ns5 = kvs.map (·.1) := sortedI_unique hp5 hs5 hs
  subst e5
  walk
  rename_i kF kN Tc kX
  exact hret _ _ _ _ kF kN ⟨_, _, _, [_], rfl, .head _, hI5, rfl, above_one (allLt_of l5)⟩

local macro_rules | `(tactic| walk_at "call ref") => `(tactic| (k_here; (with_reducible show wpAny _ _ (call (Value.ref 383) [Value.ref _]) _ _ _); k_dflt (refine' Tell.use (numbers_tell _ ?hS ?hm ?hD ?lo ?hz ?hs) ?k1 ?k2 ?k3 ?k4 ?k5 ?kK ?kd ?ku ?_; (case k1 => k_asm); (case k2 => k_asm); (case k3 => k_asm); (case k4 => k_asm); (case k5 => k_asm); (case kK => first | exact rfl | assumption); (case hD => assumption); (case hm => k_mem); (case hS => ktr_rel); (case lo => assumption); (case hz => assumption); (case hs => assumption); (case kd => ktr_room); (case ku => ktr_units); intro r9 N9 h9 tk9 F9 M9 ho9; obtain ⟨D9, c9, vs9, tl9, er9, hm9, hI9, eN9, hA9⟩ := ho9; subst er9; subst eN9; (try dsimp only); (try k_fold))))
/-- what the table holds, row by row -/
inductive TabAt (w : World) (N : Led) : List (Int × Value) → List (Int × Int × OV) → Prop
  | nil : TabAt w N [] []
  | cons {n g : Int} {ev u : Value} {o : OV} {kvs : List (Int × Value)} {rows : List (Int × Int × OV)} : EntAt N ev g u → OvAt w N u o → TabAt w N kvs rows → TabAt w N ((n, ev) :: kvs) ((n, g, o) :: rows)
theorem TabAt.mono {w : World} {N N' : Led} (s : ∀ p ∈ N, p ∈ N') : ∀ {kvs : List (Int × Value)} {rows : List (Int × Int × OV)}, TabAt w N kvs rows → TabAt w N' kvs rows
  | _, _, .nil => .nil
  | _, _, .cons a b r => .cons (a.mono s) (b.mono s) (TabAt.mono s r)
theorem TabAt.len {w : World} {N : Led} : ∀ {kvs : List (Int × Value)} {rows : List (Int × Int × OV)}, TabAt w N kvs rows → kvs.length = rows.length
  | _, _, .nil => rfl
  | _, _, .cons _ _ r => congrArg (· + 1) r.len
theorem TabAt.keys {w : World} {N : Led} : ∀ {kvs : List (Int × Value)} {rows : List (Int × Int × OV)}, TabAt w N kvs rows → kvs.map (·.1) = rows.map (·.1)
  | _, _, .nil => rfl
  | _, _, .cons _ _ r => congrArg (_ :: ·) r.keys
theorem TabAt.get {w : World} {N : Led} : ∀ {kvs : List (Int × Value)} {rows : List (Int × Int × OV)} {j : Nat} {row : Int × Int × OV}, TabAt w N kvs rows → rows[j]? = some row → ∃ ev u, kvs[j]? = some (row.1, ev) ∧ EntAt N ev row.2.1 u ∧ OvAt w N u row.2.2
  | _, _, 0, _, .cons a b _, e => by cases e; exact ⟨_, _, rfl, a, b⟩
  | _, _, j + 1, _, .cons _ _ r, e => by
    obtain ⟨ev, u, h1, h2⟩ := r.get (j := j) (by simpa using e)
    exact ⟨ev, u, by simpa using h1, h2⟩
  | _, _, _, _, .nil, e => by simp at e
def rowD (q : Int × Int × OV) : Dat := .tuple [.int q.1, .int q.2.1, tOf q.2.2]
def shelfD (rows : List (Int × Int × OV)) : Dat := .tuple [.tuple (rows.map rowD), .tuple [.str (Str.ofString "dict")]]
theorem iget_mem {prog : Program} {w : World} {A : Around} {E : Value → Shared → Prop} {s : Shared} {h₀ : Heap} {L d : Addr} {news : Led} {o : Obj} {kvs : List (Int × Value)} {k : Int} {t : Tok} {v : Value} {Q : Value → Shared → Prop} {value slice : PySem.Expr} (N : News h₀ L s.heap news) (hm : (d, o) ∈ news) (hD : o.IsDictOf (PySem.intKind prog w) kvs) (hk : valueAt kvs k = some v) (h : Q v { s with toks := s.toks + 1 })
    (hs : subscripted slice false (.ref d) (.int k t) = operate [.ref d, .int k t] (getItem (.ref d) (.int k t)) := by with_unfolding_all rfl) :
    wpAny (model prog w) A (subscriptTail value slice (.ref d) (.int k t)) Q E s :=
  have hd : s.heap.DictOf (PySem.intKind prog w) d kvs := Heap.dictOf_iff.mpr ⟨o, N.get hm, hD⟩
  tail_any hd.mapOf.typeIs slot_dict_getitem.lookup (wpAny_getItem_of (intKind_is prog w k t) hd.mapOf hk h) hs
theorem intsAre_get : ∀ {vs : List Value} {ns : List Int} {j : Nat} {v : Value} {k : Int}, IntsAre vs ns → vs[j]? = some v → ns[j]? = some k → ∃ t, v = .int k t
  | _, _, 0, _, _, .cons y t r, e1, e2 => by cases e1; cases e2; exact ⟨t, rfl⟩
  | _, _, j + 1, _, _, .cons y t r, e1, e2 => intsAre_get r (by simpa using e1) (by simpa using e2)
  | _, _, _, _, _, .nil, e1, _ => by simp at e1

set_option maxHeartbeats 4000000 in
theorem stold_tell (w : World) {sh tb tr : Addr} {ot : Obj} {kvs : List (Int × Value)} {rows : List (Int × Int × OV)} {N : Led} (hS : ShelfAt N sh tb tr) (hm : (tb, ot) ∈ N) (hD : ot.IsDictOf (IK w) kvs) (lo : (tb == sysModules) = false) (hz : kvs.length < 60) (hs : (kvs.map (·.1)).Pairwise (· ≤ ·)) (hn : (kvs.map (·.1)).Nodup)
    (hT : TabAt w N kvs rows) (hf : ∀ q ∈ rows, Fine q.2.2) (htr : OvAt w N (.ref tr) (.dict [] [])) :
    Tell w 395 [.ref sh] 24 N (fun r N' => ∃ tl, DatIn tl r (shelfD rows) ∧ N' = tl ++ N ∧ Above tl N) := by
  unfold Tell
  k_fill
  intro loose mean mg mb dp un gd cn cs a0 ccd cl outer A₀ base h₀ L m s Q E B F X Nw T hcs hd' hu hret
  obtain ⟨da, g1, g2, u1, u2, hs1, hs2⟩ := id hS
  refine wpAny_call ?_
  k_dflt cell_enter
  walk
  k_dflt (refine LCg.ListComp_U (F₀ := by k_asm) (by rfl) (by decide) (by rfl) (by decide) (by rfl) ?_)
  iterate 4 (first | (k_unfold; (try dsimp only)) | walk1 | (dsimp only; walk1))
  k_dflt (refine' Tell.use (numbers_tell _ ?hS ?hm ?hD ?lo ?hz ?hs) ?k1 ?k2 ?k3 ?k4 ?k5 ?kK ?kd ?ku ?_; (case k1 => k_asm); (case k2 => k_asm); (case k3 => k_asm); (case k4 => k_asm); (case k5 => k_asm); (case kK => first | exact rfl | assumption); (case hD => assumption); (case hm => k_mem); (case hS => ktr_rel); (case lo => assumption); (case hz => assumption); (case hs => assumption); (case kd => ktr_room); (case ku => ktr_units); intro r9 N9 h9 tk9 F9 M9 ho9; obtain ⟨D9, c9, vs9, tl9, er9, hm9, hI9, eN9, hA9⟩ := ho9; subst er9; subst eN9; (try dsimp only); (try k_fold))
  rename IntsAre _ _ => hI
  rename Above _ _ => hA0
  rename (_, listOf _ _) ∈ _ => hm0
  have hlv := hI.length
  rw [List.length_map] at hlv
  have hlr := hT.len
  refine comp_map (FreshD N) (fun _ _ _ _ s h => h.mono s) (rows.map rowD) rfl (by k_asm) (by k_asm) (inL hm0) (by omega) (by rw [List.length_map]; omega) ?_ ?_
  · intro g j v d tl8 ys8 I oI C oC D m₂ h tk E' hv hd8 hC hx F2 N2 ne
    rw [List.getElem?_map] at hd8
    obtain ⟨row, hrow, rfl⟩ := Option.map_eq_some_iff.mp hd8
    obtain ⟨ev, u, hkv, he, ho⟩ := hT.get hrow
    obtain ⟨t5, rfl⟩ := intsAre_get hI hv (by rw [List.getElem?_map, hkv]; rfl)
    have hval : valueAt kvs row.1 = some ev := valueAt_of_get hn hkv
    obtain ⟨et, ec, etg, rfl, he⟩ := he
    walk
    k_dflt (refine iget_mem (by k_asm) (by k_mem) hD hval ?_)
    walk
    k_dflt (refine iget_mem (by k_asm) (by k_mem) hD hval ?_)
    walk
    k_dflt (refine' Tell.use (told_tell _ (OvAt.mono ?ks ho) (hf row (List.mem_of_getElem? hrow))) ?k1 ?k2 ?k3 ?k4 ?k5 ?kK ?kd ?ku ?_; (case k1 => k_asm); (case k2 => k_asm); (case k3 => k_asm); (case k4 => k_asm); (case k5 => k_asm); (case kK => first | exact rfl | assumption); (case kd => ktr_room); (case ku => ktr_units); (case ks => intro p hp; k_mem))
    intro r9 N9 h9 tk9 F9 M9 ho9
    obtain ⟨tl9, hD9, eN9, hA9⟩ := ho9; subst eN9
    (try k_fold)
    walk
    rename_i F10 N10 l10
    exact EltEnd.cons F10 N10 l10 hA9 fun hA10 => ⟨_, DatIn.tuple (.head _) (.cons (.int _ _) (.cons (.int _ _) (.cons (DatIn.mono (fun p hp => .tail _ hp) hD9) .nil))), fun p hp => inL hp, above_sub hA10 fun p hp => by k_mem⟩
  · intro g D3 h tk tl3 ys3 F3 N3 hA3 hD3 hR3
    have hl3 : ys3.length = rows.length := by rw [hR3.len, List.length_map]
    walk
    k_dflt (refine' Tell.use (told_tell _ (OvAt.mono ?ks htr) ⟨by rw [OV.wide, OV.wides]; trivial, by decide⟩) ?k1 ?k2 ?k3 ?k4 ?k5 ?kK ?kd ?ku ?_; (case k1 => k_asm); (case k2 => k_asm); (case k3 => k_asm); (case k4 => k_asm); (case k5 => k_asm); (case kK => first | exact rfl | assumption); (case kd => ktr_room); (case ku => ktr_units); (case ks => intro p hp; k_mem))
    intro r9 N9 h9 tk9 F9 M9 ho9
    obtain ⟨tl9, hD9, eN9, hA9⟩ := ho9; subst eN9
    (try k_fold)
    walk
    rename (D3 < _ ∧ _) => l4
    rename (∀ p ∈ tl9 ++ _, p.1 < _) => l5
    rename_i kF kN Tc kX
    obtain ⟨tl, hA, hs, hN⟩ := grown2 (N := N) kN (by intro p hp; k_mem)
    refine hret _ _ _ _ kF hN ⟨tl, DatIn.tuple (hs _ (.head _) fun q hq => Ne.symm (Nat.ne_of_lt (l5 q (by k_mem)))) (.cons (DatIn.tuple (hs _ (.tail _ (inR (.head _))) fun q hq => Ne.symm (Nat.ne_of_lt (ktn_ltOf l4.2 q (by k_mem)))) (freshAll (n := tl3 ++ _) (fun p hp hq => hs p (by k_mem) hq) hR3)) (.cons (DatIn.mono (fun p hp => hs p (.tail _ (inL hp)) fun q hq => hA9 q (by k_mem) p hp) hD9) .nil)), rfl, hA⟩
end
section
section
variable {prog : Program} {w : World} {A : Around} {E : Value → Shared → Prop} {s : Shared} {h₀ : Heap} {env : Env} {target : PySem.Expr} {body : List Stmt} {Q : Flow → Shared → Prop}
theorem turn_next0 {L : Addr} {I : Addr} {it : Obj} {J : (Str → Option Value) → Led → Prop} {h' : Heap} {tk : Nat} {m' : Str → Option Value} {n' : Led} (F : Fr h₀ L h' m') (N : News h₀ L h' ((I, it) :: n')) (hoff : ∀ p ∈ n', p.1 ≠ I)
    (hJ : J m' n') : TurnEnd h₀ L s I it J Q .next { s with heap := h', toks := tk } := ⟨h', tk, m', n', rfl, F, N, hoff, hJ⟩
/-- a for over a dict with one text key -/
theorem for_oneKey {d : Addr} {od : Obj} {k : Str} {u : Value} {m₀ : Str → Option Value} {news : Led} (x : Str) (P : Led → Prop)
    (hh : A.handled = none) (F : Fr h₀ env.locals s.heap m₀) (N : News h₀ env.locals s.heap news) (hm : (d, od) ∈ news) (hd : od.IsDictOf (PySem.strKind prog w) [(k, u)]) (lo : (d == sysModules) = false)
    (hk : ∀ n, P n → (d, od) ∈ n)
    (turn : ∀ I it t h tk, (∀ p ∈ news, @LT.lt Nat _ p.1 I) → Fr h₀ env.locals h m₀ → News h₀ env.locals h ((I, it) :: news) → (∀ p ∈ news, p.1 ≠ I) →
      wpAny (model prog w) A (assign target env (.str k t)) (fun _ s₂ => wpAny (model prog w) A (execs body env) (TurnEnd h₀ env.locals { s with heap := h, toks := tk } I it (fun m n => (∃ t, m = fun y => if y = x then some (.str k t) else m₀ y) ∧ P n) Q) E s₂) E { s with heap := h, toks := tk })
    (done : ∀ t n h tk, P n → Fr h₀ env.locals h (fun y => if y = x then some (.str k t) else m₀ y) → News h₀ env.locals h n → Q .next { s with heap := h, toks := tk }) :
    wpAny (model prog w) A (pyIter (.ref d)) (fun it s₂ => TurnsAt prog w A h₀ env target body Q E it s₂) E s := by
  refine kta_keys (knd := PySem.strKind prog w) (enc := PyData.str) (xs := [Itm.tok (fun t => .str k t)]) hh F N hm hd lo (fun _ _ h => Value.isStrOf_shape h) rfl fun I hI => ?_
  refine ItemsRest.tok fun t h tk F1 => AllObj.cons fun it hit => AllObj.nil fun N1 => ?_
  refine wpAny_mono (turn I it t h tk hI F1 N1 fun p hp => Nat.ne_of_lt (hI p hp)) (fun _ s₂ h₂ => wpAny_mono h₂ (fun f s₃ h₃ => ?_) fun _ _ e => e) fun _ _ e => e
  have nx : (∃ h' tk' m' n', s₃ = { ({ s with heap := h, toks := tk } : Shared) with heap := h', toks := tk' } ∧ Fr h₀ env.locals h' m' ∧ News h₀ env.locals h' ((I, it) :: n') ∧ (∀ p ∈ n', p.1 ≠ I) ∧ (∃ t, m' = fun y => if y = x then some (.str k t) else m₀ y) ∧ P n') →
      UnrEndW h₀ env.locals { s with heap := h, toks := tk } [(I, it)] (fun m' n' => SubL [(d, od)] n' ∧ ItemsRest prog w A E h₀ env target body Q s [(I, "dict_keyiterator")] [(d, od)] [] m' n') s₃ := by
    rintro ⟨h', tk', m', n', rfl, F', N', hI', ⟨t', rfl⟩, hP⟩
    refine ⟨h', tk', _, n', rfl, F', N', fun p hp q hq => ?_, ⟨hk _ hP, trivial⟩, ItemsRest.zero fun h tk F N => done t' n' h tk hP F N⟩
    rw [List.mem_singleton.mp hq]; exact hI' p hp
  cases f with
  | ret v => exact h₃
  | brk => exact h₃
  | next => exact nx h₃
  | cont => exact nx h₃
end
theorem dictOf_mem {prog : Program} {w : World} {K : Type} [DecidableEq K] {knd : KeyKind prog w K} {A : Around} {E : Value → Shared → Prop} {s : Shared} {h₀ : Heap} {L src : Addr} {m : Str → Option Value} {news : Led} {o : Obj} {kvs : List (K × Value)} {Q : Value → Shared → Prop}
    (F : Fr h₀ L s.heap m) (N : News h₀ L s.heap news) (hbig : sysModules < h₀.objs.size) (hm : (src, o) ∈ news) (hD : o.IsDictOf knd kvs) (lo : (src == sysModules) = false) (hsz : kvs.length < 60)
    (k : ∀ D h' o', Fr h₀ L h' m → News h₀ L h' ((D, o') :: news) → (D == sysModules) = false → o'.IsDictOf knd kvs → (∀ p ∈ news, p.1 ≠ D) → Q (.ref D) { s with heap := h' }) :
    wpAny (model prog w) A (call (.type "dict") [.ref src]) Q E s := by
  refine kt_call_dict lo (kda_dict N hm hD) (by rw [sizeLine_eq]; omega) fun h' hm hs => ?_
  obtain ⟨o', ho', hd'⟩ := Heap.dictOf_iff.mp hm
  have N1 := News.push F N { cls := .type "dict", data := .dict #[] }
  exact k _ h' o' ((F.push _).change hs (N1 _ (.head _)).2.1 (N1.fresh (.head _))) (N1.setHead N.apart hs ho') (F.notModules hbig) hd' N.apart
theorem getItem_mem {prog : Program} {w : World} {A : Around} {E : Value → Shared → Prop} {s : Shared} {h₀ : Heap} {L d : Addr} {news : Led} {o : Obj} {kvs : List (Str × Value)} {k : Str} {t : Tok} {v : Value} {Q : Value → Shared → Prop} (N : News h₀ L s.heap news) (hm : (d, o) ∈ news) (hD : o.IsDictOf (PySem.strKind prog w) kvs) (hk : valueAt kvs k = some v) (h : Q v { s with toks := s.toks + 1 }) :
    wpAny (model prog w) A (getItem (.ref d) (.str k t)) Q E s := kdt_getItem (knd := PySem.strKind prog w) N hm hD (strKind_is _ _ _ _) hk h

set_option maxHeartbeats 4000000 in
theorem turned_tell (w : World) {hd ch a : Addr} {oh oc : Obj} {hkvs : List (Str × Value)} {N : Led} (hm : (hd, oh) ∈ N) (hD : oh.IsDictOf (SK w) hkvs) (lo : (hd == sysModules) = false) (hz : hkvs.length < 60)
    (hmc : (ch, oc) ∈ N) (hDc : oc.IsDictOf (SK w) [(Str.ofString "Annots", .ref a)]) (loc : (ch == sysModules) = false) :
    Tell w 407 [.ref hd, .ref ch] 1 N (fun r N' => ∃ fd of tl, r = .ref fd ∧ (fd, of) ∈ tl ∧ of.IsDictOf (SK w) (stored hkvs (Str.ofString "Annots") (.ref a)) ∧ (fd == sysModules) = false ∧ N' = tl ++ N ∧ Above tl N) := by
  unfold Tell
  k_fill
  intro loose mean mg mb dp un gd cn cs a0 ccd cl outer A₀ base h₀ L m s Q E B F X Nw T hcs hd' hu hret
  refine wpAny_call ?_
  k_dflt ktr_enter
  walk
  k_dflt (refine dictOf_mem (knd := SK w) (by k_asm) (by k_asm) (modules_low (Top.nolimit (by k_asm))) (by k_mem) hD lo hz ?_)
  intro D1 h1 o1 F1 N1 lo1 hD1 off1
  walk
  refine For_turns (by k_asm) ?_
  walk
  rename Fr _ _ _ _ => F2
  rename News _ _ _ _ => N2
  refine for_oneKey (Str.ofString "key") (fun n => ∃ of, n = (D1, of) :: N ∧ of.IsDictOf (SK w) (stored hkvs (Str.ofString "Annots") (.ref a))) rfl F2 N2 (by k_mem) hDc loc ?_ ?_ ?_
  · rintro n ⟨of, rfl, _⟩
    exact .tail _ hmc
  · intro I it t h tk hI F3 N3 hoff
    walk
    k_dflt (refine dget_mem (by k_asm) (by k_mem) hDc rfl ?_)
    walk
    k_dflt (refine dget_mem (by k_asm) (by k_mem) hDc rfl ?_)
    walk
    k_dflt (refine kda_set (knd := SK w) (by k_asm) (by k_asm) (.tail (Ne.symm (hoff _ (.head _))) (.head off1)) hD1 (strKind_is _ _ _ _) (by rw [sizeLine_eq]; omega) ?_)
    intro h' of' F' N' hD'
    walk
    refine turn_next0 F' N' (fun p hp => ?_) ⟨⟨_, rfl⟩, of', rfl, hD'⟩
    rcases List.mem_cons.mp hp with rfl | hp
    · exact hoff (D1, o1) (.head _)
    · exact hoff p (.tail _ hp)
  · rintro t n h tk ⟨of, rfl, hDf⟩ F3 N3
    walk
    rename_i kF kN Tc kX
    exact hret _ _ _ _ kF kN ⟨D1, of, [_], rfl, .head _, hDf, lo1, rfl, above_ofNe off1⟩

local macro_rules | `(tactic| walk_at "call ref") => `(tactic| (k_here; (with_reducible show wpAny _ _ (call (Value.ref 362) [Value.ref _, Value.int _ _, Value.int _ _, _]) _ _ _); k_dflt (refine' Tell.use (put_tell _ ?hS ?hD ?hz ?ho) ?k1 ?k2 ?k3 ?k4 ?k5 ?kK ?kd ?ku ?_; (case k1 => k_asm); (case k2 => k_asm); (case k3 => k_asm); (case k4 => k_asm); (case k5 => k_asm); (case kK => first | exact rfl | assumption); (case hD => assumption); (case hS => assumption); (case hz => assumption); (case ho => assumption); (case kd => ktr_room); (case ku => ktr_units); intro r9 N9 h9 tk9 F9 M9 ho9; obtain ⟨ev9, ot9, tl9, er9, he9, hd9, eN9, hA9⟩ := ho9; subst er9; subst eN9; (try dsimp only); (try k_fold))))

set_option maxHeartbeats 4000000 in
theorem lay_tell (w : World) {sh tb tr x : Addr} {hv : Value} {n g : Int} {ot : Obj} {kvs : List (Int × Value)} {M : Led} (hS : ShelfAt M sh tb tr) (hr : OvAt w M (.ref x) (.ref n g)) (hD : ot.IsDictOf (IK w) kvs) (hz : kvs.length < 60) (hoff : ∀ p ∈ M, p.1 ≠ tb) :
    Tell w 414 [.ref sh, .ref x, hv] 2 ((tb, ot) :: M) (fun r N' => ∃ ev ot' tl, r = .none ∧ EntAt tl ev g hv ∧ ot'.IsDictOf (IK w) (stored kvs n ev) ∧ N' = (tb, ot') :: (tl ++ M) ∧ Above tl ((tb, ot') :: M)) := by
  unfold Tell
  k_fill
  intro loose mean mg mb dp un gd cn cs a0 ccd cl outer A₀ base h₀ L m s Q E B F X Nw T hcs hd' hu hret
  obtain ⟨da, g1, g2, u1, u2, hs1, hs2⟩ := id hS
  cases hr with
  | ref h1 h2 =>
    refine wpAny_call ?_
    k_dflt ktr_enter
    walk
    rename_i kF kN Tc kX
    rename Obj.IsDictOf (IK w) _ (stored _ _ _) => hD'
    rename EntAt _ _ _ _ => he
    rename Above _ (_ :: M) => hA
    exact hret _ _ _ _ kF kN ⟨_, _, _, rfl, he, hD', rfl, hA⟩
end
section
section
variable {prog : Program} {w : World} {A : Around} {E : Value → Shared → Prop} {s : Shared} {h₀ : Heap} {L : Addr} {m : Str → Option Value} {env : Env} {elt iter : PySem.Expr} {x : Str} {scope : Scope} {cl : List (Str × Addr)} {pos : Pos}
theorem cell_loop {δ : Type} (R : Led → Value → δ → Prop) (mono : ∀ N N' v d, (∀ p ∈ N, p ∈ N') → R N v d → R N' v d) (ds : List δ) {px : Pos} {ax : Addr} {vs : List Value} {c : Nat} {news : Led} {RR : Value → Addr → Result → Shared → Prop} {I D C K : Addr}
    (hkind : scope.kind = .function) (hx : (relabel scope env).names.lookup x = some .cell) (hz : vs.length < 1000000) (hl : vs.length = ds.length) (hm : (ax, tupO vs c) ∈ news)
    (W : Walks prog w A I [I, ax] [I] vs.length (fun i v => vs[i]? = some v) (fun i h => h.IsTupleIter I ax i ∧ h.IsTuple ax vs.toArray))
    (hID : I ≠ D) (hIC : I ≠ C) (hIK : I ≠ K) (hDC : D ≠ C) (hDK : D ≠ K) (hCK : C ≠ K) (hIL : I ≠ L) (hDL : D ≠ L) (hCL : C ≠ L) (hKL : K ≠ L)
    (hI₀ : h₀.get? I = none) (hD₀ : h₀.get? D = none) (hC₀ : h₀.get? C = none) (hK₀ : h₀.get? K = none)
    (off : ∀ p ∈ news, p.1 ≠ I ∧ p.1 ≠ D ∧ p.1 ≠ C ∧ p.1 ≠ K)
    (turn : ∀ (g : Heap) (k : Nat) (v : Value) (d : δ) tl ys I oI C oC K oK D h tk (E' : Value → Shared → Prop), vs[k]? = some v → ds[k]? = some d → oK.data = .cell (some v) → Fr h₀ L h m → News h₀ L h (Three I oI C oC D (LCg.lst ys) ((K, oK) :: (tl ++ news))) →
      wpAny (model prog w) A (eval elt (compEnvC scope ((x, K) :: cl) C env)) (EltEnd R h₀ L m s (Three I oI C oC D (LCg.lst ys) ((K, oK) :: (tl ++ news))) (tl ++ news) d) E' (⟨h, s.gens, s.drawn, tk, s.os⟩ : Shared))
    (hRR : ∀ h tk m' ys n, Fr h₀ L h m → News h₀ L h ((D, LCg.lst ys) :: n) → LCg.Off1 D n → h.Ns C m' → (∀ p ∈ n, p.1 ≠ C) → (∃ tl, n = tl ++ news ∧ Above tl news ∧ AllR R n ys ds) → RR (.ref D) C (.ok .next) (⟨h, s.gens, s.drawn, tk, s.os⟩ : Shared))
    {h₁ : Heap} {m₁ : Str → Option Value} {tk₁ : Nat} (hst : h₁.IsTupleIter I ax 0 ∧ h₁.IsTuple ax vs.toArray) (hD : h₁.get? D = some (LCg.lst [])) (hC : h₁.Ns C m₁) (hK : h₁.IsCell K none) (F : Fr h₀ L h₁ m) (N : News h₀ L h₁ news) :
    codeAny (model prog w) A (.compLoop (.ListComp elt [⟨.Name x px, iter, [], 0⟩] scope pos) 0 (.ref I) (.ref D) (compEnvC scope ((x, K) :: cl) C env)) (RR (.ref D) C) (⟨h₁, s.gens, s.drawn, tk₁, s.os⟩ : Shared) := by
  refine codeAny_compLoop_tests
    (fun k s' => ∃ h' tk i ys m' n tl cv, s' = (⟨h', s.gens, s.drawn, tk, s.os⟩ : Shared) ∧ i ≤ vs.length ∧ k = vs.length + 1 - i ∧ ys.length = i ∧ (h'.IsTupleIter I ax i ∧ h'.IsTuple ax vs.toArray) ∧ Fr h₀ L h' m ∧ h'.Ns C m' ∧ News h₀ L h' ((D, LCg.lst ys) :: n) ∧
      (∀ p ∈ n, p.1 ≠ I ∧ p.1 ≠ D ∧ p.1 ≠ C ∧ p.1 ≠ K) ∧ h'.IsCell K cv ∧ n = tl ++ news ∧ Above tl news ∧ AllR R n ys (ds.take i)) ?_ (vs.length + 1)
    ⟨h₁, _, 0, [], _, news, [], _, rfl, Nat.zero_le _, rfl, rfl, hst, F, hC, ?_, off, hK, rfl, above_nil, by rw [List.take_zero]; exact .nil⟩
  · rintro k s' ⟨h', tk, i, ys, m', n, tl, cv, rfl, hi, rfl, hyl, hst', F', hn', N', off', hK', rfl, hA', hR'⟩
    by_cases hlt : i < vs.length
    · refine W.item i _ _ _ hlt hst' fun v h₂ tk₂ hPv hst₂ hk₂ => ?_
      have hK₂ : h₂.IsCell K cv := by obtain ⟨o, e, q⟩ := hK'; exact ⟨o, hk₂ _ _ (by simpa using Ne.symm hIK) e, q⟩
      refine wpAny_assign_Name (wpAny_storeName_cell (c := K) (by simpa [compEnvC, relabel] using hkind) (by simpa [compEnvC, Env.kindOf] using hx) (by simp [compEnvC]) hK₂ fun h₃ hK₃ hs₃ => ?_)
      refine wpAny_tests_nil ?_
      simp only [if_true]
      have kp : ∀ b o, b ≠ I → b ≠ K → h'.get? b = some o → h₃.get? b = some o := fun b o e1 e2 e => hs₃.extBut b o e2 (hk₂ b o (by simpa using e1) e)
      have hst₃ : h₃.IsTupleIter I ax (i + 1) ∧ h₃.IsTuple ax vs.toArray := W.frame _ _ _ hst₂ fun b hb o e => hs₃.extBut b o (fun q => by
        rcases List.mem_cons.mp hb with r | hb
        · exact hIK (r.symm.trans q)
        · rw [List.mem_singleton.mp hb] at q
          exact (off' _ (List.mem_append.mpr (.inr hm))).2.2.2 q) e
      have F₃ : Fr h₀ L h₃ m := (LCg.fr_but F' hk₂ (Ne.symm hIL) hI₀).change hs₃ hKL hK₀
      have hn₃ : h₃.Ns C m' := (hn'.at' fun o e => hk₂ _ o (by simpa using Ne.symm hIC) e).sameBut hs₃ hCK
      obtain ⟨oI, heI, hoI⟩ := hst₃.1
      obtain ⟨oC, heC, hoC⟩ := LCg.ns_obj hn₃
      obtain ⟨oK, heK, hoK⟩ := hK₃
      have N₃ : News h₀ L h₃ (Three I oI C oC D (LCg.lst ys) ((K, oK) :: (tl ++ news))) := fun p hp => by
        rcases List.mem_cons.mp hp with rfl | hp
        · exact ⟨heI, hIL, hI₀⟩
        rcases List.mem_cons.mp hp with rfl | hp
        · exact ⟨heC, hCL, hC₀⟩
        rcases List.mem_cons.mp hp with rfl | hp
        · have z := N' _ (.head _)
          exact ⟨kp _ _ (Ne.symm hID) hDK z.1, z.2⟩
        rcases List.mem_cons.mp hp with rfl | hp
        · exact ⟨heK, hKL, hK₀⟩
        · have z := N' p (.tail _ hp)
          have o := off' p hp
          exact ⟨kp _ _ o.1 o.2.2.2 z.1, z.2⟩
      have hdi : i < ds.length := by omega
      refine wpAny_mono (turn h₃ i v ds[i] tl ys I oI C oC K oK D h₃ _ _ hPv (List.getElem?_eq_getElem hdi) hoK F₃ N₃) (fun y s₄ h₄ => ?_) fun _ _ e => e
      obtain ⟨h₄, tk₄, tl9, rfl, F₄, N₄, hA9, r⟩ := h₄
      have zI := (N₄ (I, oI) (inR (.head _))).1
      have zC := (N₄ (C, oC) (inR (.tail _ (.head _)))).1
      have zD := (N₄ (D, LCg.lst ys) (inR (.tail _ (.tail _ (.head _))))).1
      have zK := (N₄ (K, oK) (inR (.tail _ (.tail _ (.tail _ (.head _)))))).1
      have hst₄ : h₄.IsTupleIter I ax (i + 1) ∧ h₄.IsTuple ax vs.toArray := ⟨⟨oI, zI, hoI⟩, ⟨_, (N₄ (ax, tupO vs c) (inR (.tail _ (.tail _ (.tail _ (.tail _ (List.mem_append.mpr (.inr hm)))))))).1, rfl, c, rfl⟩⟩
      refine append_at (hsz := size_line (by omega)) zD fun h₅ hs₅ hD₅ => ?_
      have off9 : ∀ p ∈ tl9 ++ (tl ++ news), p.1 ≠ I ∧ p.1 ≠ D ∧ p.1 ≠ C ∧ p.1 ≠ K := fun p hp => by
        rcases List.mem_append.mp hp with hp | hp
        · exact ⟨hA9 _ (.head _) p hp, hA9 _ (.tail _ (.tail _ (.head _))) p hp, hA9 _ (.tail _ (.head _)) p hp, hA9 _ (.tail _ (.tail _ (.tail _ (.head _)))) p hp⟩
        · exact off' p hp
      have hin : ∀ p ∈ tl9 ++ (tl ++ news), p ∈ tl9 ++ Three I oI C oC D (LCg.lst ys) ((K, oK) :: (tl ++ news)) := fun p hp => by
        rcases List.mem_append.mp hp with hp | hp
        · exact inL hp
        · exact inR (.tail _ (.tail _ (.tail _ (.tail _ hp))))
      refine ⟨vs.length + 1 - (i + 1), by omega, h₅, tk₄, i + 1, ys ++ [y], _, tl9 ++ (tl ++ news), tl9 ++ tl, some v, rfl, hlt, rfl, by rw [List.length_append, List.length_singleton, hyl], W.frame _ _ _ hst₄ fun b hb o e => hs₅.extBut b o (fun q => ?_) e, F₄.change hs₅ hDL hD₀,
        (hoC.ns zC).sameBut hs₅ (Ne.symm hDC), fun p hp => ?_, off9, ⟨oK, hs₅.extBut _ _ (Ne.symm hDK) zK, hoK⟩, by rw [List.append_assoc], above_trans hA' (above_sub hA9 fun p hp => .tail _ (.tail _ (.tail _ (.tail _ hp)))), ?_⟩
      · rcases List.mem_cons.mp hb with r | hb
        · exact hID (r.symm.trans q)
        · rw [List.mem_singleton.mp hb] at q
          exact (off' _ (List.mem_append.mpr (.inr hm))).2.1 q
      · rcases List.mem_cons.mp hp with rfl | hp
        · exact ⟨hD₅.trans (congrArg some (LCg.lst_snoc ys y)), hDL, hD₀⟩
        · exact ⟨hs₅.extBut _ _ (off9 p hp).2.1 (N₄ p (hin p hp)).1, (N₄ p (hin p hp)).2⟩
      · rw [List.take_add_one, List.getElem?_eq_getElem hdi]
        exact AllR.snoc (AllR.monoR (fun v d h => mono _ _ v d (fun p hp => inR hp) h) hR') r
    · obtain rfl : i = vs.length := Nat.le_antisymm hi (Nat.not_lt.mp hlt)
      refine W.done _ _ _ hst' fun h₂ tk₂ hk₂ => ?_
      refine hRR h₂ tk₂ _ ys (tl ++ news) (LCg.fr_but F' hk₂ (Ne.symm hIL) hI₀) (LCg.news_but N' hk₂ fun p hp => ?_) ?_ (hn'.at' fun o e => hk₂ _ o (by simpa using Ne.symm hIC) e) (fun p hp => (off' p hp).2.2.1) ⟨tl, rfl, hA', by rw [hl, List.take_length] at hR'; exact hR'⟩
      · rcases List.mem_cons.mp hp with rfl | hp
        · exact Ne.symm hID
        · exact (off' p hp).1
      · exact (LCg.Off3.of (I := I) (C := C) (D := D) fun p hp => ⟨(off' p hp).1, (off' p hp).2.2.1, (off' p hp).2.1⟩).one
  · intro p hp
    rcases List.mem_cons.mp hp with rfl | hp
    · exact ⟨hD, hDL, hD₀⟩
    · exact N p hp

/-- a comprehension over a tuple of the ledger whose name is a cell of its block -/
theorem block_cell {δ : Type} (R : Led → Value → δ → Prop) (mono : ∀ N N' v d, (∀ p ∈ N, p ∈ N') → R N v d → R N' v d) (ds : List δ) {px : Pos} {ax : Addr} {vs : List Value} {c : Nat} {news : Led} {Q : Value → Shared → Prop}
    (hcs : ∀ n, cellsFrom n scope.names cl = (x, n) :: cl) (hpc : ∀ h, pushCells h scope.names = h.push { cls := .type "cell", data := .cell none }) (hkind : scope.kind = .function) (hx : (relabel scope env).names.lookup x = some .cell)
    (hh : A.handled = none) (F : Fr h₀ L s.heap m) (N : News h₀ L s.heap news) (hm : (ax, tupO vs c) ∈ news) (hz : vs.length < 1000000) (hl : vs.length = ds.length)
    (turn : ∀ (g : Heap) (k : Nat) (v : Value) (d : δ) tl ys I oI C oC K oK D h tk (E' : Value → Shared → Prop), vs[k]? = some v → ds[k]? = some d → oK.data = .cell (some v) → Fr h₀ L h m → News h₀ L h (Three I oI C oC D (LCg.lst ys) ((K, oK) :: (tl ++ news))) →
      wpAny (model prog w) A (eval elt (compEnvC scope ((x, K) :: cl) C env)) (EltEnd R h₀ L m s (Three I oI C oC D (LCg.lst ys) ((K, oK) :: (tl ++ news))) (tl ++ news) d) E' (⟨h, s.gens, s.drawn, tk, s.os⟩ : Shared))
    (hQ : ∀ I g, BlockOK prog w A E h₀ L m env elt [⟨.Name x px, iter, [], 0⟩] scope cl pos I (fun ys n => ∃ tl, n = tl ++ news ∧ Above tl news ∧ AllR R n ys ds) { s with heap := g } → Q (.ref I) { s with heap := g }) :
    wpAny (model prog w) A (pyIter (.ref ax)) Q E s := by
  have hax := N _ hm
  have hlT : s.heap.IsTuple ax vs.toArray := ⟨_, hax.1, rfl, c, rfl⟩
  have hlt : ax < s.heap.objs.size := Heap.lt_size hax.1
  refine wpAny_pyIter_tuple hlT (hQ _ _ fun RR hRR => ?_)
  have W : Walks prog w A s.heap.objs.size [s.heap.objs.size, ax] [s.heap.objs.size] vs.length (fun i v => vs[i]? = some v) (fun i h => h.IsTupleIter s.heap.objs.size ax i ∧ h.IsTuple ax vs.toArray) := by
    simpa using Walks.tuple (prog := prog) (w := w) hh s.heap.objs.size ax (Nat.ne_of_lt hlt) vs.toArray
  have hL : @LT.lt Nat _ L s.heap.objs.size := F.ns.lt
  have none₀ : ∀ a, s.heap.objs.size ≤ a → h₀.get? a = none := fun a ha => by
    cases e : h₀.get? a with
    | none => rfl
    | some o' => exact absurd (Heap.lt_size (F.keep a o' e)) (Nat.not_lt.mpr ha)
  refine wpAny_newObj_type ?_
  simp only [newFunctionEnv, Option.isSome_some, if_true]
  refine wpAny_bind (wpAny_alloc ?_)
  refine wpAny_bind (wpAny_layCells _ (fun name kind cells => by cases hkc : kind == NameKind.cell <;> simp [hkc]) _ _ _ _ ?_)
  rw [hcs, hpc, List.forIn_nil]
  refine wpAny_bind (wpAny_pure (wpAny_pure ?_))
  have gI : (s.heap.push { cls := .type "tuple_iterator", data := .fields #[.ref ax, .int 0 0] }).get? s.heap.objs.size = some { cls := .type "tuple_iterator", data := .fields #[.ref ax, .int 0 0] } := Heap.get?_push_size _ rfl
  have old₁ : ∀ b o, s.heap.get? b = some o → (s.heap.push { cls := .type "tuple_iterator", data := .fields #[.ref ax, .int 0 0] }).get? b = some o := fun b o e => Heap.get?_push_of_some _ e
  have z1 : (s.heap.push { cls := .type "tuple_iterator", data := .fields #[.ref ax, .int 0 0] }).objs.size = s.heap.objs.size + 1 := Heap.size_push ..
  dsimp only
  generalize s.heap.push { cls := .type "tuple_iterator", data := .fields #[.ref ax, .int 0 0] } = H1 at *
  have gD : (H1.push { cls := .type "list", data := .seq ([] : List Value).toArray }).get? H1.objs.size = some (LCg.lst []) := Heap.get?_push_size _ rfl
  have old₂ : ∀ b o, H1.get? b = some o → (H1.push { cls := .type "list", data := .seq ([] : List Value).toArray }).get? b = some o := fun b o e => Heap.get?_push_of_some _ e
  have z2 : (H1.push { cls := .type "list", data := .seq ([] : List Value).toArray }).objs.size = H1.objs.size + 1 := Heap.size_push ..
  generalize H1.push { cls := .type "list", data := .seq ([] : List Value).toArray } = H2 at *
  have gC : (H2.push { cls := .type "dict", data := .dict #[] }).Ns H2.objs.size (fun _ => none) := Heap.Ns.new H2 (.type "dict")
  have old₃ : ∀ b o, H2.get? b = some o → (H2.push { cls := .type "dict", data := .dict #[] }).get? b = some o := fun b o e => Heap.get?_push_of_some _ e
  have z3 : (H2.push { cls := .type "dict", data := .dict #[] }).objs.size = H2.objs.size + 1 := Heap.size_push ..
  generalize H2.push { cls := .type "dict", data := .dict #[] } = H3 at *
  have gK : (H3.push { cls := .type "cell", data := .cell none }).IsCell H3.objs.size none := ⟨_, Heap.get?_push_size _ rfl, rfl⟩
  have old₄ : ∀ b o, H3.get? b = some o → (H3.push { cls := .type "cell", data := .cell none }).get? b = some o := fun b o e => Heap.get?_push_of_some _ e
  generalize H3.push { cls := .type "cell", data := .cell none } = H4 at *
  have old : ∀ b o, s.heap.get? b = some o → H4.get? b = some o := fun b o e => old₄ _ _ (old₃ _ _ (old₂ _ _ (old₁ _ _ e)))
  have hst : H4.IsTupleIter s.heap.objs.size ax 0 ∧ H4.IsTuple ax vs.toArray := ⟨⟨_, old₄ _ _ (old₃ _ _ (old₂ _ _ gI)), rfl, rfl⟩, hlT.at fun o e => old _ _ e⟩
  have lo : ∀ p ∈ news, @LT.lt Nat _ p.1 s.heap.objs.size := fun p hp => Heap.lt_size (N p hp).1
  have loop : ∀ tk, codeAny (model prog w) A (.compLoop (.ListComp elt [⟨.Name x px, iter, [], 0⟩] scope pos) 0 (.ref s.heap.objs.size) (.ref H1.objs.size) (compEnvC scope ((x, H3.objs.size) :: cl) H2.objs.size env)) (RR (.ref H1.objs.size) H2.objs.size) (⟨H4, s.gens, s.drawn, tk, s.os⟩ : Shared) := fun tk =>
    cell_loop R mono ds (I := s.heap.objs.size) (D := H1.objs.size) (C := H2.objs.size) (K := H3.objs.size) hkind hx hz hl hm W (neN (by omega)) (neN (by omega)) (neN (by omega)) (neN (by omega)) (neN (by omega)) (neN (by omega)) (neN (by omega)) (neN (by omega)) (neN (by omega)) (neN (by omega))
      (none₀ _ (by omega)) (none₀ _ (by omega)) (none₀ _ (by omega)) (none₀ _ (by omega)) (fun p hp => have := lo p hp; ⟨neN (by omega), neN (by omega), neN (by omega), neN (by omega)⟩) turn
      (fun h tk m' ys n F' N' o1 hn offC fin => hRR _ _ h tk m' ys n F' N' o1 hn (none₀ _ (by omega)) (none₀ _ (by omega)) (neN (by omega)) (neN (by omega)) (neN (by omega)) offC fin)
      hst (old₄ _ _ (old₃ _ _ gD)) (gC.keeps old₄) gK (F.keeps old) (N.grown old)
  exact codeAny_compStart_list (loop _) (W.self 0 _ _ _ hst (loop _))
end
end
section
section
variable {prog : Program} {w : World} {A : Around} {E : Value → Shared → Prop} {s s₂ : Shared} {h₀ : Heap} {L : Addr} {m : Str → Option Value} {env : Env} {elt iter target : PySem.Expr} {x : Str} {scope : Scope} {cl : List (Str × Addr)} {gens : List Comprehension} {pos : Pos}
theorem assign_blockF {ifs : List PySem.Expr} {gs : List Comprehension} {y : Str} {py spos : Pos} {Q : Flow → Shared → Prop} (_F₀ : Fr h₀ env.locals s.heap m)
    (hsw : swapsWith (.ListComp elt (⟨target, iter, ifs, 0⟩ :: gs) scope pos) (some (.Name y py)) spos.line env = pure true)
    (hclos : closureFor scope env = pure cl) (hkind : scope.kind = .function) (hnames : ∀ y ∈ scope.names, y.2 = .local → scope.names.lookup y.1 = some .local)
    (hy : env.kindOf y = some .local) (hp : (env.scope.kind == .class || (env.scope.kind == .module && env.locals != env.globals)) = false)
    (h : wpAny (model prog w) A (eval iter env) (fun xv s₁ => wpAny (model prog w) A (pyIter xv) (fun it s₂ => ∃ I Fin, it = .ref I ∧ BlockOK prog w A E h₀ env.locals m env elt (⟨target, iter, ifs, 0⟩ :: gs) scope cl pos I Fin s₂ ∧
      ∀ ys n D h tk, Fin ys n → Fr h₀ env.locals h (fun z => if z = y then some (.ref D) else m z) → News h₀ env.locals h ((D, LCg.lst ys) :: n) → (∀ p ∈ n, p.1 ≠ D) → Q .next { s₂ with heap := h, toks := tk }) E s₁) E s)
    (hs : ∀ x, foldedSetIterable iter env x = pure x) :
    wpAny (model prog w) A (exec (.Assign [.Name y py] (.ListComp elt (⟨target, iter, ifs, 0⟩ :: gs) scope pos) spos) env) Q E s := assign_block rfl hsw hclos hkind hnames hy hp h hs
theorem eval_blockF {ifs : List PySem.Expr} {gs : List Comprehension} {Q : Value → Shared → Prop} (_F₀ : Fr h₀ L s.heap m)
    (hclos : closureFor scope env = pure cl) (hkind : scope.kind = .function) (hnames : ∀ y ∈ scope.names, y.2 = .local → scope.names.lookup y.1 = some .local)
    (h : wpAny (model prog w) A (eval iter env) (fun xv s₁ => wpAny (model prog w) A (pyIter xv) (fun it s₂ => ∃ I Fin, it = .ref I ∧ BlockOK prog w A E h₀ L m env elt (⟨target, iter, ifs, 0⟩ :: gs) scope cl pos I Fin s₂ ∧
      ∀ ys n D h tk, Fin ys n → Fr h₀ L h m → News h₀ L h ((D, LCg.lst ys) :: n) → (∀ p ∈ n, p.1 ≠ D) → Q (.ref D) { s₂ with heap := h, toks := tk }) E s₁) E s)
    (hs : ∀ x, foldedSetIterable iter env x = pure x) :
    wpAny (model prog w) A (eval (.ListComp elt (⟨target, iter, ifs, 0⟩ :: gs) scope pos) env) Q E s := eval_block hclos hkind hnames h hs
end
theorem EltEnd.two {δ : Type} {R : Led → Value → δ → Prop} {h₀ h' : Heap} {L D : Addr} {m : Str → Option Value} {s : Shared} {tk' : Nat} {N3 n tl9 tl3 : Led} {o : Obj} {d : δ} {y : Value} (F : Fr h₀ L h' m) (N : News h₀ L h' (tl9 ++ (D, o) :: (tl3 ++ N3))) (hA3 : Above tl3 N3) (hD : ∀ p ∈ tl3 ++ N3, p.1 ≠ D) (hA9 : Above tl9 ((D, o) :: (tl3 ++ N3))) (r : R ((tl9 ++ (D, o) :: tl3) ++ n) y d) : EltEnd R h₀ L m s N3 n d y { s with heap := h', toks := tk' } :=
  EltEnd.of (tl := tl9 ++ (D, o) :: tl3) F (by rw [List.append_assoc]; exact N) (above_trans (tl := (D, o) :: tl3) (above_cons (fun q hq => Ne.symm (hD q (inR hq))) hA3) hA9) r
theorem allR_fix {N n : Led} {vs : List Value} {ns : List Int} (h : AllR (fun _ v d => DecAt N v d) n vs ns) : DecAll N vs ns := by
  induction h with
  | nil => exact .nil
  | cons h _ ih => exact .cons h ih
def aroundF (f0 : Four) (fs : List Four) : Four := ((fs.map fun f => f.1).foldl min f0.1, (fs.map fun f => f.2.1).foldl min f0.2.1, (fs.map fun f => f.2.2.1).foldl max f0.2.2.1, (fs.map fun f => f.2.2.2).foldl max f0.2.2.2)
theorem boxAll_get {N : Led} {vs : List Value} {fs : List Four} {k : Nat} {v : Value} {f : Four} (h : AllR BoxAt N vs fs) (hv : vs[k]? = some v) (hf : fs[k]? = some f) : BoxAt N v f := h.get hv hf
local macro_rules | `(tactic| k_mem) => `(tactic| (rename (∀ q ∈ _, q ∈ _) => h99; exact h99 _ (by assumption)))
set_option maxHeartbeats 8000000 in
theorem around_tell (w : World) {bl : Addr} {bvs : List Value} {c : Nat} {f0 : Four} {fs : List Four} {N0 N : Led} (hb : (bl, listOf bvs.toArray c) ∈ N) (hB : AllR BoxAt N0 bvs (f0 :: fs)) (hN0 : ∀ p ∈ N0, p ∈ N) (hz : fs.length < 50) :
    Tell w 455 [.ref bl] 20 N (fun r N' => ∃ a v1 v2 v3 v4 c tl, r = .ref a ∧ N' = tl ++ N ∧ Above tl N ∧ (a, tupO [v1, v2, v3, v4] c) ∈ tl ∧ DecAt N0 v1 (aroundF f0 fs).1 ∧ DecAt N0 v2 (aroundF f0 fs).2.1 ∧ DecAt N0 v3 (aroundF f0 fs).2.2.1 ∧ DecAt N0 v4 (aroundF f0 fs).2.2.2) := by
  unfold Tell
  k_fill
  intro loose mean mg mb dp un gd cn cs a0 ccd cl outer A₀ base h₀ L m s Q E B F X Nw T hcs hd' hu hret
  have hbl := hB.len
  rw [List.length_cons] at hbl
  refine wpAny_call ?_
  k_dflt cell_enter
  walk
  rename Fr _ _ _ _ => F1
  k_dflt (refine assign_blockF F1 (by rfl) (by with_unfolding_all rfl) (by rfl) (by decide) (by rfl) (by rfl) ?_ (by intro _; rfl))
  walk
  rename Fr _ _ _ _ => F2
  rename News _ _ _ _ => N2
  refine block_cell (fun _ v d => DecAt N0 v d) (fun _ _ _ _ _ h => h) [(aroundF f0 fs).1, (aroundF f0 fs).2.1] (fun _ => by rfl) (fun _ => by rfl) (by rfl) (by rfl) (by rfl) F2 N2 (.head _) (by simp) (by rfl) ?_ (fun I g hOK => ⟨I, _, rfl, hOK, ?_⟩)
  · intro g k v d tl8 ys8 I oI C oC K oK D h tk E' hv hd8 hoK F3 N3
    rcases k with _ | _ | k
    · obtain rfl : Value.int 0 _ = v := by simpa using hv
      obtain rfl : (aroundF f0 fs).1 = d := by simpa using hd8
      walk
      k_dflt (refine LCg.ListComp_U (F₀ := by k_asm) (by rfl) (by decide) (by rfl) (by decide) (by rfl) ?_)
      walk
      rename Fr _ _ _ _ => F4
      rename News _ _ _ _ => N4
      refine comp_map (fun _ v d => DecAt N0 v d) (fun _ _ _ _ _ h => h) ((f0 :: fs).map fun f => f.1) rfl F4 N4 (by k_mem) (by omega) (by rw [List.length_map]; exact hB.len) ?_ ?_
      · intro g k v d tl7 ys7 I1 oI1 C1 oC1 D1 m₂ h1 tk1 E1 hv1 hd1 hC1 hx1 F5 N5 ne1
        rw [List.getElem?_map] at hd1
        obtain ⟨f, hf, rfl⟩ := Option.map_eq_some_iff.mp hd1
        obtain ⟨ta, tc, v1, v2, v3, v4, rfl, hta, d1, d2, d3, d4⟩ := boxAll_get hB hv1 hf
        have hta' := hN0 _ hta
        walk
        exact EltEnd.of0 (by k_asm) (by k_asm) (by assumption)
      · intro g D3 h3 tk3 tl3 ys3 F6 N6 hA3 hD3 hR3
        have hl3 : ys3.length = fs.length + 1 := by rw [hR3.len, List.length_map, List.length_cons]
        have hR4 : DecAll N0 ys3 (f0.1 :: fs.map fun f => f.1) := allR_fix hR3
        clear hR3
        walk
        rename Fr _ _ _ _ => F9
        rename News _ _ _ _ => N9
        rename DecAt N0 _ (List.foldl _ _ _) => hD9
        rename Above _ ((D3, _) :: _) => hA9
        exact EltEnd.two F9 N9 hA3 hD3 hA9 hD9
    · obtain rfl : Value.int 1 _ = v := by simpa using hv
      obtain rfl : (aroundF f0 fs).2.1 = d := by simpa using hd8
      walk
      k_dflt (refine LCg.ListComp_U (F₀ := by k_asm) (by rfl) (by decide) (by rfl) (by decide) (by rfl) ?_)
      walk
      rename Fr _ _ _ _ => F4
      rename News _ _ _ _ => N4
      refine comp_map (fun _ v d => DecAt N0 v d) (fun _ _ _ _ _ h => h) ((f0 :: fs).map fun f => f.2.1) rfl F4 N4 (by k_mem) (by omega) (by rw [List.length_map]; exact hB.len) ?_ ?_
      · intro g k v d tl7 ys7 I1 oI1 C1 oC1 D1 m₂ h1 tk1 E1 hv1 hd1 hC1 hx1 F5 N5 ne1
        rw [List.getElem?_map] at hd1
        obtain ⟨f, hf, rfl⟩ := Option.map_eq_some_iff.mp hd1
        obtain ⟨ta, tc, v1, v2, v3, v4, rfl, hta, d1, d2, d3, d4⟩ := boxAll_get hB hv1 hf
        have hta' := hN0 _ hta
        walk
        exact EltEnd.of0 (by k_asm) (by k_asm) (by assumption)
      · intro g D3 h3 tk3 tl3 ys3 F6 N6 hA3 hD3 hR3
        have hl3 : ys3.length = fs.length + 1 := by rw [hR3.len, List.length_map, List.length_cons]
        have hR4 : DecAll N0 ys3 (f0.2.1 :: fs.map fun f => f.2.1) := allR_fix hR3
        clear hR3
        walk
        rename Fr _ _ _ _ => F9
        rename News _ _ _ _ => N9
        rename DecAt N0 _ (List.foldl _ _ _) => hD9
        rename Above _ ((D3, _) :: _) => hA9
        exact EltEnd.two F9 N9 hA3 hD3 hA9 hD9
    · simp at hv
  rintro yl nl Dl h7 tk7 ⟨tlL, rfl, hAL, hRL⟩ F7 N7 off7
  rcases hRL with _ | @⟨w1, _, _, _, dw1, hRL⟩
  rcases hRL with _ | @⟨w2, _, _, _, dw2, hRL⟩
  cases hRL
  walk
  rename Fr _ _ _ _ => F11
  k_dflt (refine assign_blockF F11 (by rfl) (by with_unfolding_all rfl) (by rfl) (by decide) (by rfl) (by rfl) ?_ (by intro _; rfl))
  walk
  rename Fr _ _ _ _ => F2
  rename News _ _ _ _ => N2
  refine block_cell (fun _ v d => DecAt N0 v d) (fun _ _ _ _ _ h => h) [(aroundF f0 fs).2.2.1, (aroundF f0 fs).2.2.2] (fun _ => by rfl) (fun _ => by rfl) (by rfl) (by rfl) (by rfl) F2 N2 (.head _) (by simp) (by rfl) ?_ (fun I g hOK => ⟨I, _, rfl, hOK, ?_⟩)
  · intro g k v d tl8 ys8 I oI C oC K oK D h tk E' hv hd8 hoK F3 N3
    rcases k with _ | _ | k
    · obtain rfl : Value.int 2 _ = v := by simpa using hv
      obtain rfl : (aroundF f0 fs).2.2.1 = d := by simpa using hd8
      walk
      k_dflt (refine LCg.ListComp_U (F₀ := by k_asm) (by rfl) (by decide) (by rfl) (by decide) (by rfl) ?_)
      walk
      rename Fr _ _ _ _ => F4
      rename News _ _ _ _ => N4
      refine comp_map (fun _ v d => DecAt N0 v d) (fun _ _ _ _ _ h => h) ((f0 :: fs).map fun f => f.2.2.1) rfl F4 N4 (by k_mem) (by omega) (by rw [List.length_map]; exact hB.len) ?_ ?_
      · intro g k v d tl7 ys7 I1 oI1 C1 oC1 D1 m₂ h1 tk1 E1 hv1 hd1 hC1 hx1 F5 N5 ne1
        rw [List.getElem?_map] at hd1
        obtain ⟨f, hf, rfl⟩ := Option.map_eq_some_iff.mp hd1
        obtain ⟨ta, tc, v1, v2, v3, v4, rfl, hta, d1, d2, d3, d4⟩ := boxAll_get hB hv1 hf
        have hta' := hN0 _ hta
        walk
        exact EltEnd.of0 (by k_asm) (by k_asm) (by assumption)
      · intro g D3 h3 tk3 tl3 ys3 F6 N6 hA3 hD3 hR3
        have hl3 : ys3.length = fs.length + 1 := by rw [hR3.len, List.length_map, List.length_cons]
        have hR4 : DecAll N0 ys3 (f0.2.2.1 :: fs.map fun f => f.2.2.1) := allR_fix hR3
        clear hR3
        walk
        rename Fr _ _ _ _ => F9
        rename News _ _ _ _ => N9
        rename DecAt N0 _ (List.foldl _ _ _) => hD9
        rename Above _ ((D3, _) :: _) => hA9
        exact EltEnd.two F9 N9 hA3 hD3 hA9 hD9
    · obtain rfl : Value.int 3 _ = v := by simpa using hv
      obtain rfl : (aroundF f0 fs).2.2.2 = d := by simpa using hd8
      walk
      k_dflt (refine LCg.ListComp_U (F₀ := by k_asm) (by rfl) (by decide) (by rfl) (by decide) (by rfl) ?_)
      walk
      rename Fr _ _ _ _ => F4
      rename News _ _ _ _ => N4
      refine comp_map (fun _ v d => DecAt N0 v d) (fun _ _ _ _ _ h => h) ((f0 :: fs).map fun f => f.2.2.2) rfl F4 N4 (by k_mem) (by omega) (by rw [List.length_map]; exact hB.len) ?_ ?_
      · intro g k v d tl7 ys7 I1 oI1 C1 oC1 D1 m₂ h1 tk1 E1 hv1 hd1 hC1 hx1 F5 N5 ne1
        rw [List.getElem?_map] at hd1
        obtain ⟨f, hf, rfl⟩ := Option.map_eq_some_iff.mp hd1
        obtain ⟨ta, tc, v1, v2, v3, v4, rfl, hta, d1, d2, d3, d4⟩ := boxAll_get hB hv1 hf
        have hta' := hN0 _ hta
        walk
        exact EltEnd.of0 (by k_asm) (by k_asm) (by assumption)
      · intro g D3 h3 tk3 tl3 ys3 F6 N6 hA3 hD3 hR3
        have hl3 : ys3.length = fs.length + 1 := by rw [hR3.len, List.length_map, List.length_cons]
        have hR4 : DecAll N0 ys3 (f0.2.2.2 :: fs.map fun f => f.2.2.2) := allR_fix hR3
        clear hR3
        walk
        rename Fr _ _ _ _ => F9
        rename News _ _ _ _ => N9
        rename DecAt N0 _ (List.foldl _ _ _) => hD9
        rename Above _ ((D3, _) :: _) => hA9
        exact EltEnd.two F9 N9 hA3 hD3 hA9 hD9
    · simp at hv
  rintro yh nh Dh h8 tk8 ⟨tlH, rfl, hAH, hRH⟩ F8 N8 off8
  rcases hRH with _ | @⟨w3, _, _, _, dw3, hRH⟩
  rcases hRH with _ | @⟨w4, _, _, _, dw4, hRH⟩
  cases hRH
  walk
  rename (_ < _ ∧ _ < _ ∧ AllLt _ _) => l9
  rename_i kF kN Tc kX
  obtain ⟨tl, hA, hs, hN⟩ := grown2 (N := N) kN (by intro p hp; k_mem)
  exact hret _ _ _ _ kF hN ⟨_, w1, w2, w3, w4, _, tl, rfl, rfl, hA, hs _ (.head _) fun q hq => Ne.symm (Nat.ne_of_lt (ktn_ltOf l9.2.2 q (by k_mem))), dw1, dw2, dw3, dw4⟩
end
local macro_rules | `(tactic| walk_at "call ref") => `(tactic| (k_here; (with_reducible show wpAny _ _ (call (Value.ref 455) [_]) _ _ _); k_dflt (refine' Tell.use (around_tell _ ?hb ?hB ?h0 ?hz) ?k1 ?k2 ?k3 ?k4 ?k5 ?kK ?kd ?ku ?_; (case k1 => k_asm); (case k2 => k_asm); (case k3 => k_asm); (case k4 => k_asm); (case k5 => k_asm); (case kK => first | exact rfl | assumption); (case hB => assumption); (case hb => k_mem); (case h0 => (intro p9 hp9; k_mem)); (case hz => omega); (case kd => ktr_room); (case ku => ktr_units); intro r9 N9 h9 tk9 F9 M9 ho9; obtain ⟨a9, w1, w2, w3, w4, c9, tl9, er9, eN9, hA9, hm9, dw1, dw2, dw3, dw4⟩ := ho9; subst er9; subst eN9; (try dsimp only); (try k_fold))))
local macro_rules | `(tactic| k_mem) => `(tactic| (rename (∀ q ∈ _, q ∈ _) => h99; exact h99 _ (by assumption)))
section
def eightF (f : Four) : List Int := [f.1, f.2.2.2, f.2.2.1, f.2.2.2, f.1, f.2.1, f.2.2.1, f.2.1]
def eights (fs : List Four) : List Int := fs.flatMap eightF
set_option maxHeartbeats 4000000 in
theorem corner_tell (w : World) {v : Value} {f : Four} {N0 N : Led} (hv : BoxAt N0 v f) (h0 : ∀ p ∈ N0, p ∈ N) :
    Tell w 462 [v] 1 N (fun r N' => ∃ D vs c tl, r = .ref D ∧ (D, listOf (List.toArray vs) c) ∈ tl ∧ vs.length = 8 ∧ DecAll N0 vs (eightF f) ∧ N' = tl ++ N ∧ Above tl N) := by
  unfold Tell
  k_fill
  intro loose mean mg mb dp un gd cn cs a0 ccd cl outer A₀ base h₀ L m s Q E B F X Nw T hcs hd' hu hret
  obtain ⟨ta, tc, v1, v2, v3, v4, rfl, hta, d1, d2, d3, d4⟩ := hv
  have hta' := h0 _ hta
  refine wpAny_call ?_
  k_dflt ktr_enter
  walk
  rename (∀ p ∈ N, p.1 < _) => l9
  rename_i kF kN Tc kX
  exact hret _ _ _ _ kF kN ⟨_, [v1, v4, v3, v4, v1, v2, v3, v2], _, [_], rfl, .head _, rfl, .cons d1 (.cons d4 (.cons d3 (.cons d4 (.cons d1 (.cons d2 (.cons d3 (.cons d2 .nil))))))), rfl, above_lt l9⟩
end
local macro_rules | `(tactic| walk_at "call ref") => `(tactic| (k_here; (with_reducible show wpAny _ _ (call (Value.ref 462) [_]) _ _ _); k_dflt (refine' Tell.use (corner_tell _ ?hv ?h0) ?k1 ?k2 ?k3 ?k4 ?k5 ?kK ?kd ?ku ?_; (case k1 => k_asm); (case k2 => k_asm); (case k3 => k_asm); (case k4 => k_asm); (case k5 => k_asm); (case kK => first | exact rfl | assumption); (case hv => assumption); (case h0 => (intro p9 hp9; k_mem)); (case kd => ktr_room); (case ku => ktr_units); intro r9 N9 h9 tk9 F9 M9 ho9; obtain ⟨D9, vs9, c9, tl9, er9, hm9, hl9, hD9, eN9, hA9⟩ := ho9; subst er9; subst eN9; (try dsimp only); (try k_fold))))
section
def Held (Q : Value → Shared → Prop) (x : Value) (s : Shared) : Prop := Q x s
theorem Held.mk {Q : Value → Shared → Prop} {x : Value} {s : Shared} (h : Q x s) : Held Q x s := h
theorem hold {M : Model} {A : Around} {t : Sem Value} {Q E : Value → Shared → Prop} {s : Shared} (h : wpAny M A t (Held Q) E s) : wpAny M A t Q E s := h
theorem eights_snoc {fs : List Four} {k : Nat} {f : Four} (h : fs[k]? = some f) : eights (fs.take (k + 1)) = eights (fs.take k) ++ eightF f := by
  unfold eights
  rw [List.take_add_one, h]
  simp
theorem made_mem {prog : Program} {w : World} {h₀ : Heap} {L d : Addr} {m : Str → Option Value} {s : Shared} {M : Led} {o : Obj} {Q : Value → Shared → Prop} {vs : List (Value × Value)} (F : Fr h₀ L s.heap m) (N : News h₀ L s.heap M) (hm : (d, o) ∈ M) (hd : o.IsDictOf (PySem.strKind prog w) []) (hk : allStrKeys vs = true) (hn : ((strPairs vs).map (·.1)).Nodup)
    (h : ∀ h' o', Fr h₀ L h' m → News h₀ L h' ((d, o') :: rest d M) → o'.IsDictOf (PySem.strKind prog w) (strPairs vs) → Q (.ref d) { s with heap := h', toks := s.toks + vs.length }) : KdnMade prog w (PySem.strKind prog w) d Q vs s :=
  kdn_made_str F (newsFront N hm) (.head rest_ne) hd hk hn h
theorem isDict_lit {prog : Program} {w : World} {K : Type} [DecidableEq K] {knd : KeyKind prog w K} {o : Obj} {kvs : List (K × Value)} (h : o.IsDictOf knd kvs) : ∃ es c, o = dictOf es c := by
  obtain ⟨es, ep, ⟨h1, h2, h3⟩, h4, _⟩ := h
  refine ⟨es.toList, ep, ?_⟩
  cases o
  simp_all
theorem ne_ofAll {d l : Addr} {o : Obj} {M : Led} (h : AllLt l M) (hm : (d, o) ∈ M) : l ≠ d := Ne.symm (Nat.ne_of_lt (ktn_ltOf h _ hm))
theorem ne_ofFa {d l : Addr} {o : Obj} {M : Led} (h : ∀ q ∈ M, @LT.lt Nat _ q.1 l) (hm : (d, o) ∈ M) : l ≠ d := Ne.symm (Nat.ne_of_lt (h _ hm))
theorem perm_hi {α : Type} (T S R Q C F P : α) : List.Perm [T, S, R, Q, C, F, P] [C, F, P, Q, R, S, T] :=
  (List.reverse_perm [T, S, R, Q, C, F, P]).symm.trans (List.Perm.append_right [Q, R, S, T] (List.reverse_perm [P, F, C]).symm)
theorem ovReal {w : World} {N : Led} : ∀ {vs : List Value} {ns : List Int}, DecAll N vs ns → OvAll w N vs (ns.map .real)
  | _, _, .nil => .nil
  | _, _, .cons h r => .cons (.real h) (ovReal r)
def hiO (f0 : Four) (fs : List Four) (n g : Int) : OV :=
  .dict [Str.ofString "C", Str.ofString "F", Str.ofString "P", Str.ofString "QuadPoints", Str.ofString "Rect", Str.ofString "Subtype", Str.ofString "Type"]
    [.arr [.int 1, .int 1, .int 0], .int 4, .ref n g, .arr ((eights (f0 :: fs)).map .real), .arr [.real (aroundF f0 fs).1, .real (aroundF f0 fs).2.1, .real (aroundF f0 fs).2.2.1, .real (aroundF f0 fs).2.2.2], .name (Str.ofString "Highlight"), .name (Str.ofString "Annot")]
theorem high_turn {h₀ h' : Heap} {L I C D l1 : Addr} {m mC : Str → Option Value} {s : Shared} {oI oC : Obj} {N0 N tl tl9 : Led} {ys vs1 pre : List Value} {v : Value} {fs : List Four} {f : Four} {c1 tk' : Nat} (hA : Above tl N) (hD : DecAll N0 ys (eights (fs.take pre.length))) (hl : ys.length = 8 * pre.length) (hC : LCg.NsObj oC mC)
    (hkf : fs[pre.length]? = some f) (off : LCg.Off3 I C D (tl ++ N)) (F4 : Fr h₀ L h' m) (N4 : News h₀ L h' (tl9 ++ Three I oI C oC D (LCg.lst ys) (tl ++ N))) (hD9 : DecAll N0 vs1 (eightF f)) (hA9 : Above tl9 (Three I oI C oC D (LCg.lst ys) (tl ++ N))) (hm9 : (l1, listOf vs1.toArray c1) ∈ tl9) (hl9 : vs1.length = 8) :
    ∃ l1' vs1 c1 h'' tk'' oC' mC' n', (.ref l1 : Value) = .ref l1' ∧ vs1.length ≤ 100 ∧ (⟨h', s.gens, s.drawn, tk', s.os⟩ : Shared) = (⟨h'', s.gens, s.drawn, tk'', s.os⟩ : Shared) ∧ Fr h₀ L h'' m ∧ LCg.NsObj oC' mC' ∧ News h₀ L h'' (Three I oI C oC' D (LCg.lst ys) n') ∧ LCg.Off3 I C D n' ∧ (l1', listOf vs1.toArray c1) ∈ n' ∧
      ∃ tl, n' = tl ++ N ∧ Above tl N ∧ DecAll N0 (ys ++ vs1) (eights (fs.take (pre ++ [v]).length)) ∧ (ys ++ vs1).length = 8 * (pre ++ [v]).length := by
  refine ⟨l1, vs1, c1, h', tk', oC, mC, tl9 ++ (tl ++ N), rfl, by omega, rfl, F4, hC, newsSub N4 fun p hp => ?_, LCg.Off3.of fun p hp => ?_, inL hm9, tl9 ++ tl, by rw [List.append_assoc], above_trans hA (above_sub hA9 fun p hp => .tail _ (.tail _ (.tail _ hp))), ?_, by rw [List.length_append, List.length_append, List.length_singleton]; omega⟩
  · rcases List.mem_cons.mp hp with rfl | hp
    · exact inR (.head _)
    rcases List.mem_cons.mp hp with rfl | hp
    · exact inR (.tail _ (.head _))
    rcases List.mem_cons.mp hp with rfl | hp
    · exact inR (.tail _ (.tail _ (.head _)))
    rcases List.mem_append.mp hp with hp | hp
    · exact inL hp
    · exact inR (.tail _ (.tail _ (.tail _ hp)))
  · rcases List.mem_append.mp hp with hp | hp
    · exact ⟨hA9 _ (.head _) p hp, hA9 _ (.tail _ (.head _)) p hp, hA9 _ (.tail _ (.tail _ (.head _))) p hp⟩
    · exact off.mem p hp
  · rw [List.length_append, List.length_singleton, eights_snoc hkf]
    exact AllR.app hD9 hD
set_option maxHeartbeats 8000000 in
theorem high_tell (w : World) {v rv : Value} {f0 : Four} {fs : List Four} {n g : Int} {N0 N : Led} (hv : FindAt N0 v (f0 :: fs)) (hr : OvAt w N0 rv (.ref n g)) (h0 : ∀ p ∈ N0, p ∈ N) (hz : fs.length < 50) :
    Tell w 467 [v, rv] 24 N (fun r N' => ∃ tl, OvAt w (tl ++ N0) r (hiO f0 fs n g) ∧ N' = tl ++ N ∧ Above tl N) := by
  unfold Tell
  k_fill
  intro loose mean mg mb dp un gd cn cs a0 ccd cl outer A₀ base h₀ L m s Q E B F X Nw T hcs hd' hu hret
  obtain ⟨a, da, t1, t2, u1, u2, u3, g1, g2, g3, bl, bvs, c, rfl, h1', h2', h3', hB⟩ := id hv
  have h1 := h0 _ h1'
  have h2 := h0 _ h2'
  have h3 := h0 _ h3'
  have hbl := hB.len
  rw [List.length_cons] at hbl
  have hr0 := hr
  cases hr with
  | @ref x dx _ _ _ _ _ _ _ _ hr1' hr2' =>
  have hr1 := h0 _ hr1'
  have hr2 := h0 _ hr2'
  refine wpAny_call ?_
  k_dflt ktr_enter
  walk
  rename Fr _ _ _ _ => F1
  k_dflt (refine assign_blockF F1 (by rfl) (by with_unfolding_all rfl) (by rfl) (by decide) (by rfl) (by rfl) ?_ (by intro _; rfl))
  walk
  rename Fr _ _ _ _ => F2
  rename News _ _ _ _ => N2
  refine block_two (fun pre ys nn => ∃ tl, nn = tl ++ N ∧ Above tl N ∧ DecAll N0 ys (eights ((f0 :: fs).take pre.length)) ∧ ys.length = 8 * pre.length) (by rfl) (by decide) (by rfl) (by rfl) (by rfl) (fun _ _ => rfl) (by rfl) F2 N2 h3 (by omega) ⟨[], rfl, above_nil, .nil, rfl⟩ ?_ ?_ (fun I g hOK => ⟨I, _, rfl, hOK, ?_⟩)
  · rintro pre ys nn ⟨tl, rfl, _, _, hl⟩
    exact ⟨inR h3, by omega⟩
  · rintro g pre v post ys nn I oI C oC D mC h tk E' e ⟨tl, rfl, hA, hD, hl⟩ hC hx F3 N3 off ne
    obtain ⟨f, hf, hkf⟩ := (show AllR BoxAt N0 (pre ++ v :: post) (f0 :: fs) from e ▸ hB).here
    refine hold ?_
    walk
    refine Held.mk ?_
    rename DecAll N0 _ (eightF f) => hD9
    rename Above _ (Three _ _ _ _ _ _ _) => hA9
    rename Fr _ _ _ _ => F4
    rename News _ _ _ _ => N4
    rename (_, listOf _ _) ∈ _ => hm9
    rename (_ = 8) => hl9
    exact high_turn hA hD hl hC hkf off F4 N4 hD9 hA9 hm9 hl9
  · rintro ys nn D h tk ⟨tl, rfl, hA, hD, hl⟩ F3 N3 off3
    walk
    rw [List.take_of_length_le (by rw [List.length_cons]; omega)] at hD
    rename Obj.IsDictOf _ _ [] => hd0
    rename OvAt w _ _ (.name (Str.ofString "Annot")) => hA1
    rename OvAt w _ _ (.name (Str.ofString "Highlight")) => hA2
    rename DecAt N0 _ (aroundF f0 fs).1 => dw1
    rename DecAt N0 _ (aroundF f0 fs).2.1 => dw2
    rename DecAt N0 _ (aroundF f0 fs).2.2.1 => dw3
    rename DecAt N0 _ (aroundF f0 fs).2.2.2 => dw4
    rename (_ < _ ∧ AllLt _ (tl ++ N)) => lD
    rename (_ < _ ∧ AllLt _ (_ ++ (_ ++ _))) => lC
    rename (∀ q : Addr × Obj, q ∈ _ → q.1 < _) => lR
    rename ((_ == sysModules) = false) => los
    rename Above _ (_ :: _ :: (tl ++ N)) => hU1
    rename Above _ (_ ++ _ :: _ :: (tl ++ N)) => hU2
    rename Fr _ _ _ _ => F9
    rename News _ _ _ _ => N9
    refine made_mem F9 N9 (by k_mem) hd0 (by rfl) (of_decide_eq_true (by rfl)) ?_
    intro h' o' F' N' hD'
    walk
    rename_i kF kN Tc kX
    have nN : ∀ p ∈ N, p.1 ≠ _ := fun p hp => Nat.ne_of_lt (ktn_ltOf lD.2 p (inR hp))
    obtain ⟨tl5, hA5, hs5, hN5⟩ := grown2 (N := N) kN (fun p hp => .tail _ (mem_rest (by k_mem) (nN p hp)))
    obtain ⟨es, c5, rfl⟩ := isDict_lit hD'
    refine hret _ _ _ _ kF hN5 ⟨tl5, .dict (vs := [_, _, _, _, _, _, _]) los (inL (hs5 _ (.head _) fun q hq => Ne.symm (nN q hq))) hD' (perm_hi _ _ _ _ _ _ _) (by decide) (by decide) (by decide) rfl
      (.cons (.arr (inL (hs5 _ (.tail _ (mem_rest (.head _) (ne_ofAll lC.2 (by k_mem)))) fun q hq => Ne.symm (Nat.ne_of_lt (ktn_ltOf lC.2 q (by k_mem))))) (.cons (.int 1 _) (.cons (.int 1 _) (.cons (.int 0 _) .nil)))) (.cons (.int 4 _) (.cons (hr0.mono ?q1) (.cons (.arr (inL (hs5 _ (.tail _ (mem_rest (by k_mem) (Nat.ne_of_lt lD.1))) fun q hq => Ne.symm (off3 q (inR hq)))) (OvAll.mono ?q1 (ovReal hD)))
      (.cons (.arr (inL (hs5 _ (.tail _ (mem_rest (.tail _ (.head _)) (ne_ofFa lR (by k_mem)))) fun q hq => Ne.symm (Nat.ne_of_lt (lR q (by k_mem))))) (OvAll.mono ?q1 (ovReal (.cons dw1 (.cons dw2 (.cons dw3 (.cons dw4 .nil))))))) (.cons (hA2.mono ?q2) (.cons (hA1.mono ?q3) .nil))))))), rfl, hA5⟩
    case q1 => exact fun p hp => inR hp
    case q2 => exact fun p hp => inL (hs5 p (.tail _ (mem_rest (by k_mem) (hU2 _ (inR (.head _)) p hp))) fun q hq => hU2 q (by k_mem) p hp)
    case q3 => exact fun p hp => inL (hs5 p (.tail _ (mem_rest (by k_mem) (hU1 _ (.head _) p hp))) fun q hq => hU1 q (by k_mem) p hp)
end
local macro_rules | `(tactic| walk_at "call ref") => `(tactic| (k_here; (with_reducible show wpAny _ _ (call (Value.ref 467) [_, _]) _ _ _); k_dflt (refine' Tell.use (high_tell _ ?hv ?hr ?h0 ?hz) ?k1 ?k2 ?k3 ?k4 ?k5 ?kK ?kd ?ku ?_; (case k1 => k_asm); (case k2 => k_asm); (case k3 => k_asm); (case k4 => k_asm); (case k5 => k_asm); (case kK => first | exact rfl | assumption); (case hv => assumption); (case hr => assumption); (case h0 => (intro p9 hp9; k_mem)); (case hz => omega); (case kd => ktr_room); (case ku => ktr_units); intro r9 N9 h9 tk9 F9 M9 ho9; obtain ⟨tl9, hO9, eN9, hA9⟩ := ho9; subst eN9; (try dsimp only); (try k_fold))))
local macro_rules | `(tactic| walk_at "call ref") => `(tactic| (k_here; (with_reducible show wpAny _ _ (call (Value.ref 341) [Value.ref _, Value.ref _, Value.str _ _]) _ _ _); k_dflt (refine' Tell.use (get_tell _ ?hS ?hm ?hD ?lo ?hF) ?k1 ?k2 ?k3 ?k4 ?k5 ?kK ?kd ?ku ?_; (case k1 => k_asm); (case k2 => k_asm); (case k3 => k_asm); (case k4 => k_asm); (case k5 => k_asm); (case kK => first | exact rfl | assumption); (case hS => ktr_rel); (case hD => assumption); (case hm => k_mem); (case lo => assumption); (case hF => ktr_rel); (case kd => ktr_room); (case ku => ktr_units); intro r9 N9 h9 tk9 F9 M9 ho9; obtain ⟨er9, tl9, eN9, hA9⟩ := ho9; subst er9; subst eN9; (try dsimp only); (try k_fold))))
section
theorem add_any (w : World) {sh tb tr : Addr} {v : Value} {ot : Obj} {kvs : List (Int × Value)} {M0 N : Led} (hS : ShelfAt M0 sh tb tr) (h0 : ∀ p ∈ M0, p ∈ N) (hoff : ∀ p ∈ M0, p.1 ≠ tb) (hm : (tb, ot) ∈ N) (hD : ot.IsDictOf (IK w) kvs) (lo : (tb == sysModules) = false) (hz : kvs.length < 60) :
    Tell w 369 [.ref sh, v] 4 N (fun r N' => ∃ n ev ot' tl, valueAt kvs n = none ∧ OvAt w tl r (.ref n 0) ∧ EntAt tl ev 0 v ∧ ot'.IsDictOf (IK w) (stored kvs n ev) ∧ N' = (tb, ot') :: (tl ++ rest tb N) ∧ Above tl ((tb, ot') :: rest tb N)) := by
  have C := add_tell w (v := v) (M := rest tb N) (hS.mono fun p hp => mem_rest (h0 p hp) (hoff p hp)) hD lo hz rest_ne
  intro loose mean mg mb dp un gd cn cs a ccd cl outer A₀ base h₀ L m s Q E B F X Nw T hcs hd hu hret
  exact C.use B F X (newsFront Nw hm) T hcs hd hu hret
theorem lay_any (w : World) {sh tb tr x : Addr} {hv : Value} {n g : Int} {ot : Obj} {kvs : List (Int × Value)} {M0 N : Led} (hS : ShelfAt M0 sh tb tr) (hr : OvAt w M0 (.ref x) (.ref n g)) (h0 : ∀ p ∈ M0, p ∈ N) (hoff : ∀ p ∈ M0, p.1 ≠ tb) (hm : (tb, ot) ∈ N) (hD : ot.IsDictOf (IK w) kvs) (hz : kvs.length < 60) :
    Tell w 414 [.ref sh, .ref x, hv] 2 N (fun r N' => ∃ ev ot' tl, r = .none ∧ EntAt tl ev g hv ∧ ot'.IsDictOf (IK w) (stored kvs n ev) ∧ N' = (tb, ot') :: (tl ++ rest tb N) ∧ Above tl ((tb, ot') :: rest tb N)) := by
  have s0 : ∀ p ∈ M0, p ∈ rest tb N := fun p hp => mem_rest (h0 p hp) (hoff p hp)
  have C := lay_tell w (hv := hv) (M := rest tb N) (hS.mono s0) (hr.mono s0) hD hz rest_ne
  intro loose mean mg mb dp un gd cn cs a ccd cl outer A₀ base h₀ L m s Q E B F X Nw T hcs hd hu hret
  exact C.use B F X (newsFront Nw hm) T hcs hd hu hret
end
local macro_rules | `(tactic| walk_at "call ref") => `(tactic| (k_here; (with_reducible show wpAny _ _ (call (Value.ref 369) [Value.ref _, _]) _ _ _); k_dflt (refine' Tell.use (add_any _ ?hS ?h0 ?ho ?hm ?hD ?lo ?hz) ?k1 ?k2 ?k3 ?k4 ?k5 ?kK ?kd ?ku ?_; (case k1 => k_asm); (case k2 => k_asm); (case k3 => k_asm); (case k4 => k_asm); (case k5 => k_asm); (case kK => first | exact rfl | assumption); (case hS => assumption); (case hm => k_mem); (case h0 => (intro p9 hp9; k_mem)); (case ho => assumption); (case hD => assumption); (case lo => assumption); (case hz => omega); (case kd => ktr_room); (case ku => ktr_units); intro r9 N9 h9 tk9 F9 M9 ho9; obtain ⟨n9, ev9, ot9, tl9, hn9, hR9, hE9, hD9, eN9, hA9⟩ := ho9; subst eN9; (try dsimp only); (try k_fold))))
local macro_rules | `(tactic| walk_at "call ref") => `(tactic| (k_here; (with_reducible show wpAny _ _ (call (Value.ref 407) [Value.ref _, Value.ref _]) _ _ _); k_dflt (refine' Tell.use (turned_tell _ ?hm ?hD ?lo ?hz ?hmc ?hDc ?loc) ?k1 ?k2 ?k3 ?k4 ?k5 ?kK ?kd ?ku ?_; (case k1 => k_asm); (case k2 => k_asm); (case k3 => k_asm); (case k4 => k_asm); (case k5 => k_asm); (case kK => first | exact rfl | assumption); (case hm => k_mem); (case hD => assumption); (case lo => assumption); (case hz => omega); (case hmc => k_mem); (case hDc => assumption); (case loc => assumption); (case kd => ktr_room); (case ku => ktr_units); intro r9 N9 h9 tk9 F9 M9 ho9; obtain ⟨fd9, of9, tl9, er9, hm9, hd9, lo9, eN9, hA9⟩ := ho9; subst er9; subst eN9; (try dsimp only); (try k_fold))))
local macro_rules | `(tactic| walk_at "call ref") => `(tactic| (k_here; (with_reducible show wpAny _ _ (call (Value.ref 414) [Value.ref _, Value.ref _, _]) _ _ _); k_dflt (refine' Tell.use (lay_any _ ?hS ?hr ?h0 ?ho ?hm ?hD ?hz) ?k1 ?k2 ?k3 ?k4 ?k5 ?kK ?kd ?ku ?_; (case k1 => k_asm); (case k2 => k_asm); (case k3 => k_asm); (case k4 => k_asm); (case k5 => k_asm); (case kK => first | exact rfl | assumption); (case hS => assumption); (case hm => k_mem); (case hr => assumption); (case h0 => (intro p9 hp9; k_mem)); (case ho => assumption); (case hD => assumption); (case hz => omega); (case kd => ktr_room); (case ku => ktr_units); intro r9 N9 h9 tk9 F9 M9 ho9; obtain ⟨ev9, ot9, tl9, er9, he9, hd9, eN9, hA9⟩ := ho9; subst er9; subst eN9; (try dsimp only); (try k_fold))))
section
theorem AllR.imp {δ : Type} {R R' : Led → Value → δ → Prop} {N N' : Led} (k : ∀ v d, R N v d → R' N' v d) : ∀ {vs : List Value} {ns : List δ}, AllR R N vs ns → AllR R' N' vs ns
  | _, _, .nil => .nil
  | _, _, .cons h r => .cons (k _ _ h) (r.imp k)
def Grows (kvs kvs' : List (Int × Value)) : Prop := ∀ k x, valueAt kvs k = some x → valueAt kvs' k = some x
theorem grows_stored {kvs : List (Int × Value)} {k : Int} {v : Value} (h : valueAt kvs k = none) : Grows kvs (stored kvs k v) ∧ valueAt (stored kvs k v) k = some v := by
  rw [stored_absent h]
  constructor
  · intro k' x hx
    unfold valueAt at hx ⊢
    rw [List.find?_append]
    cases e : List.find? (fun q => decide (q.1 = k')) kvs with
    | none => rw [e] at hx; cases hx
    | some q => rw [e] at hx; simpa using hx
  · unfold valueAt at h ⊢
    rw [List.find?_append]
    cases e : List.find? (fun q => decide (q.1 = k)) kvs with
    | none => simp
    | some q => rw [e] at h; cases h
/-- a fresh reference, and the highlight that it leads to -/
def FreshAt (w : World) (kvs : List (Int × Value)) (n g : Int) (N : Led) (y : Value) (q : Four × List Four) : Prop :=
  ∃ ni ei ui, OvAt w N y (.ref ni 0) ∧ valueAt kvs ni = some ei ∧ EntAt N ei 0 ui ∧ OvAt w N ui (hiO q.1 q.2 n g)
theorem FreshAt.mono {w : World} {kvs kvs' : List (Int × Value)} {n g : Int} {N N' : Led} {y : Value} {q : Four × List Four} (k : Grows kvs kvs') (s : ∀ p ∈ N, p ∈ N') : FreshAt w kvs n g N y q → FreshAt w kvs' n g N' y q
  | ⟨ni, ei, ui, a, b, c, d⟩ => ⟨ni, ei, ui, a.mono s, k _ _ b, c.mono s, d.mono s⟩
def PutJ (w : World) (tb : Addr) (kvs : List (Int × Value)) (n g : Int) (M : Led) (fss : List (Four × List Four)) (pre ys : List Value) (nn : Led) : Prop :=
  ∃ otk kvsk tl, nn = (tb, otk) :: (tl ++ M) ∧ (∀ p ∈ tl, p.1 ≠ tb) ∧ Above tl M ∧ otk.IsDictOf (IK w) kvsk ∧ kvsk.length ≤ kvs.length + pre.length ∧ Grows kvs kvsk ∧ AllR (FreshAt w kvsk n g) (tl ++ M) ys (fss.take pre.length)

theorem put_step {w : World} {tb : Addr} {kvs kvsk : List (Int × Value)} {n g n1 : Int} {M tl tl9 tlA : Led} {fss : List (Four × List Four)} {pre ys : List Value} {v y r ev : Value} {q : Four × List Four} {otk ot' : Obj} {h₀ h' : Heap} {L I C D ax : Addr} {oI oC : Obj} {m : Str → Option Value} {s : Shared} {tk' c : Nat} {vs : List Value}
    (hoffM : ∀ p ∈ M, p.1 ≠ tb) (hoff : ∀ p ∈ tl, p.1 ≠ tb) (hA : Above tl M) (hlen : kvsk.length ≤ kvs.length + pre.length) (hG : Grows kvs kvsk) (hF : AllR (FreshAt w kvsk n g) (tl ++ M) ys (fss.take pre.length))
    (hq : fss[pre.length]? = some q) (off : LCg.Off3 I C D ((tb, otk) :: (tl ++ M))) (hO : OvAt w (tl9 ++ M) r (hiO q.1 q.2 n g)) (hA9 : Above tl9 (Three I oI C oC D (LCg.lst ys) ((tb, otk) :: (tl ++ M))))
    (hn : valueAt kvsk n1 = none) (hR : OvAt w tlA y (.ref n1 0)) (hE : EntAt tlA ev 0 r) (hD : ot'.IsDictOf (IK w) (stored kvsk n1 ev)) (F : Fr h₀ L h' m) (N' : News h₀ L h' ((tb, ot') :: (tlA ++ rest tb (tl9 ++ Three I oI C oC D (LCg.lst ys) ((tb, otk) :: (tl ++ M))))))
    (hAA : Above tlA ((tb, ot') :: rest tb (tl9 ++ Three I oI C oC D (LCg.lst ys) ((tb, otk) :: (tl ++ M))))) (hax : (ax, listOf vs.toArray c) ∈ M) :
    LCg.CompEnd h₀ L m s I oI C oC D (LCg.lst ys) (LCg.SrcAt h₀ ax vs.toArray) (fun y n' => PutJ w tb kvs n g M fss (pre ++ [v]) (ys ++ [y]) n') y { s with heap := h', toks := tk' } := by
  have o3 := off.mem
  have ot := o3 (tb, otk) (.head _)
  have r9 : ∀ p ∈ tl9, p ∈ rest tb (tl9 ++ Three I oI C oC D (LCg.lst ys) ((tb, otk) :: (tl ++ M))) := fun p hp => mem_rest (inL hp) (hA9 _ (.tail _ (.tail _ (.tail _ (.head _)))) p hp)
  have rt : ∀ p ∈ tl ++ M, p ∈ rest tb (tl9 ++ Three I oI C oC D (LCg.lst ys) ((tb, otk) :: (tl ++ M))) := fun p hp => mem_rest (inR (.tail _ (.tail _ (.tail _ (.tail _ hp))))) (by
    rcases List.mem_append.mp hp with hp | hp
    · exact hoff p hp
    · exact hoffM p hp)
  have rI : (I, oI) ∈ rest tb (tl9 ++ Three I oI C oC D (LCg.lst ys) ((tb, otk) :: (tl ++ M))) := mem_rest (inR (.head _)) (Ne.symm ot.1)
  have rC : (C, oC) ∈ rest tb (tl9 ++ Three I oI C oC D (LCg.lst ys) ((tb, otk) :: (tl ++ M))) := mem_rest (inR (.tail _ (.head _))) (Ne.symm ot.2.1)
  have rD : (D, LCg.lst ys) ∈ rest tb (tl9 ++ Three I oI C oC D (LCg.lst ys) ((tb, otk) :: (tl ++ M))) := mem_rest (inR (.tail _ (.tail _ (.head _)))) (Ne.symm ot.2.2)
  have hAT : Above tlA (tl ++ M) := above_sub hAA fun p hp => .tail _ (rt p hp)
  have hA9' : Above tl9 (tl ++ M) := above_sub hA9 fun p hp => .tail _ (.tail _ (.tail _ (.tail _ hp)))
  have hA9A : Above tlA (tl9 ++ (tl ++ M)) := above_sub hAA fun p hp => .tail _ (by
    rcases List.mem_append.mp hp with hp | hp
    · exact r9 p hp
    · exact rt p hp)
  have memAll : ∀ p, p ∈ (tlA ++ (tl9 ++ tl)) ++ M → p ∈ tlA ∨ p ∈ tl9 ∨ p ∈ tl ++ M := fun p hp => by
    simp only [List.mem_append] at hp ⊢
    rcases hp with (h | h | h) | h
    · exact .inl h
    · exact .inr (.inl h)
    · exact .inr (.inr (.inl h))
    · exact .inr (.inr (.inr h))
  have inT : ∀ p ∈ tl ++ M, p ∈ (tlA ++ (tl9 ++ tl)) ++ M := fun p hp => by
    simp only [List.mem_append] at hp ⊢
    rcases hp with h | h
    · exact .inl (.inr (.inr h))
    · exact .inr h
  have in9 : ∀ p ∈ tl9 ++ M, p ∈ (tlA ++ (tl9 ++ tl)) ++ M := fun p hp => by
    simp only [List.mem_append] at hp ⊢
    rcases hp with h | h
    · exact .inl (.inr (.inl h))
    · exact .inr h
  have inA : ∀ p ∈ tlA, p ∈ (tlA ++ (tl9 ++ tl)) ++ M := fun p hp => by
    simp only [List.mem_append]
    exact .inl (.inl hp)
  have gs := grows_stored (v := ev) hn
  refine LCg.CompEnd.intro F N' ((tb, ot') :: ((tlA ++ (tl9 ++ tl)) ++ M)) (fun p hp => ?_) (LCg.Off3.of fun p hp => ?_) (Or.inr ⟨_, .tail _ (inR hax), rfl, _, rfl⟩) ⟨ot', _, tlA ++ (tl9 ++ tl), rfl, fun p hp => ?_, ?_, hD, ?_, fun k x hx => gs.1 _ _ (hG _ _ hx), ?_⟩
  · rcases List.mem_cons.mp hp with rfl | hp
    · exact .tail _ (inR rI)
    rcases List.mem_cons.mp hp with rfl | hp
    · exact .tail _ (inR rC)
    rcases List.mem_cons.mp hp with rfl | hp
    · exact .tail _ (inR rD)
    rcases List.mem_cons.mp hp with rfl | hp
    · exact .head _
    rcases memAll p hp with h | h | h
    · exact .tail _ (inL h)
    · exact .tail _ (inR (r9 p h))
    · exact .tail _ (inR (rt p h))
  · rcases List.mem_cons.mp hp with rfl | hp
    · exact ot
    rcases memAll p hp with h | h | h
    · exact ⟨hAA _ (.tail _ rI) p h, hAA _ (.tail _ rC) p h, hAA _ (.tail _ rD) p h⟩
    · exact ⟨hA9 _ (.head _) p h, hA9 _ (.tail _ (.head _)) p h, hA9 _ (.tail _ (.tail _ (.head _))) p h⟩
    · exact o3 p (.tail _ h)
  · simp only [List.mem_append] at hp
    rcases hp with h | h | h
    · exact hAA _ (.head _) p h
    · exact hA9 _ (.tail _ (.tail _ (.tail _ (.head _)))) p h
    · exact hoff p h
  · exact above_trans (above_trans hA hA9') (by rw [List.append_assoc]; exact hA9A)
  · rw [List.length_append, List.length_singleton]
    have := stored_length_le kvsk n1 ev
    omega
  · rw [List.length_append, List.length_singleton, List.take_add_one, hq]
    exact AllR.snoc (AllR.imp (fun _ _ h => FreshAt.mono gs.1 inT h) hF) ⟨n1, ev, r, hR.mono inA, gs.2, hE.mono inA, hO.mono in9⟩
end
section
section
variable {prog : Program} {w : World} {A : Around} {E : Value → Shared → Prop} {s : Shared} {h₀ : Heap} {L a b : Addr} {news : Led} {vs : List Value} {c : Nat} {Q : Value → Shared → Prop}
theorem ne_nil_mem (N : News h₀ L s.heap news) (hm : (a, listOf vs.toArray c) ∈ news) (hb : (b, listOf #[] 0) ∈ news) (hu : A.units < cLine) (h : Q (.bool (!vs.isEmpty)) s) : wpAny (model prog w) A (compareOp .NotEq (.ref a) (.ref b)) Q E s := by
  have ha : s.heap.IsList a vs.toArray := News.isList N hm
  have hb' : s.heap.IsList b #[] := News.isList N hb
  refine cmp_ofNotEq ?_
  cases vs with
  | nil =>
    refine PySem.SeqAt.RcNeAt.lists (e := fun _ => true) ha hb' rfl hu (fun j h1 => absurd h1 (by simp)) prog w E Q ?_
    simpa using h
  | cons v r =>
    exact PySem.SeqAt.RcNeAt.lists_lengths ha hb' (by simp) hu prog w E Q h
theorem list_mem {m : Str → Option Value} (F : Fr h₀ L s.heap m) (N : News h₀ L s.heap news) (hm : (a, listOf vs.toArray c) ∈ news) (hz : vs.length < 1000000)
    (h : ∀ D c' h', Fr h₀ L h' m → News h₀ L h' ((D, listOf vs.toArray c') :: news) → (∀ p ∈ news, @LT.lt Nat _ p.1 D) → Q (.ref D) { s with heap := h' }) : wpAny (model prog w) A (call (.type "list") [.ref a]) Q E s :=
  call_list_seq a (.inl rfl) (N.get hm) rfl rfl (fun h' c' hk hD => h _ c' h' (F.keeps hk) (fun p hp => by
    rcases List.mem_cons.mp hp with rfl | hp
    · exact ⟨hD, Ne.symm (Nat.ne_of_lt F.ns.lt), next_is_new F⟩
    · exact ⟨hk _ _ (N p hp).1, (N p hp).2⟩) fun p hp => Heap.lt_size (N p hp).1) (size_line hz)
end
local macro_rules | `(tactic| walk_at "call type:list") => `(tactic| (k_here; (with_reducible show wpAny _ _ (call (Value.type "list") [Value.ref _]) _ _ _); k_dflt (refine' list_mem ?F ?N ?a ?z ?_; (case F => k_asm); (case N => k_asm); (case a => k_mem); (case z => omega)); intro D' c' h' F' N' l1; (try k_lt l1); (try k_sweep)))
local macro_rules | `(tactic| walk_at "compareOp NotEq ref ref") => `(tactic| (k_here; (with_reducible show wpAny _ _ (compareOp .NotEq (Value.ref _) (Value.ref _)) _ _ _); k_dflt (refine ne_nil_mem (by k_asm) (by k_mem) (by k_mem) (by ktr_units) ?_)))
def FindQ (N : Led) (v : Value) (q : Four × List Four) : Prop := FindAt N v (q.1 :: q.2)
def PutOut (w : World) (tb hd : Addr) (ot : Obj) (kvs : List (Int × Value)) (hkvs : List (Str × Value)) (els : List Value) (n g : Int) (M : Led) (fss : List (Four × List Four)) (N' : Led) : Prop :=
  ∃ ot' kvs' tl, N' = (tb, ot') :: (tl ++ M) ∧ (∀ p ∈ tl, p.1 ≠ tb) ∧ Above tl M ∧ ot'.IsDictOf (IK w) kvs' ∧ (fss = [] → ot' = ot ∧ kvs' = kvs) ∧
    (fss ≠ [] → ∃ ev' fd of a frs kvsk ca, kvs' = stored kvsk n ev' ∧ Grows kvs kvsk ∧ EntAt (tl ++ M) ev' g (.ref fd) ∧ (fd, of) ∈ tl ++ M ∧ of.IsDictOf (SK w) (stored hkvs (Str.ofString "Annots") (.ref a)) ∧ (fd == sysModules) = false ∧ (a, listOf (els ++ frs).toArray ca) ∈ tl ++ M ∧ AllR (FreshAt w kvsk n g) (tl ++ M) frs fss)
theorem cEnd_mono {h₀ : Heap} {L I C D : Addr} {m : Str → Option Value} {s₁ : Shared} {oI oC oD : Obj} {S : Led → Prop} {r r' : Value → Led → Prop} {y : Value} {s₂ : Shared} (k : ∀ y n, r y n → r' y n) : LCg.CompEnd h₀ L m s₁ I oI C oC D oD S r y s₂ → LCg.CompEnd h₀ L m s₁ I oI C oC D oD S r' y s₂
  | ⟨h', tk, n, a, b, c, d, e, f⟩ => ⟨h', tk, n, a, b, c, d, e, k _ _ f⟩
theorem put_close {h₀ h : Heap} {L tb : Addr} {K M : Led} {ot : Obj} (x : News h₀ L h K) (hm : (tb, ot) ∈ K) (s : ∀ p ∈ M, p ∈ K) (hoff : ∀ p ∈ M, p.1 ≠ tb) :
    ∃ tl, News h₀ L h ((tb, ot) :: (tl ++ M)) ∧ (∀ p ∈ tl, p.1 ≠ tb) ∧ Above tl M ∧ ∀ p ∈ K, p.1 ≠ tb → p ∈ tl ++ M := by
  obtain ⟨tl, hA, hs, hN⟩ := grown (N := M) (newsSub x fun p hp => (List.mem_filter.mp hp).1 : News h₀ L h (rest tb K)) fun p hp => mem_rest (s p hp) (hoff p hp)
  refine ⟨rest tb tl, fun p hp => ?_, rest_ne, fun q hq p hp => hA q hq p (List.mem_filter.mp hp).1, fun p hp hn => ?_⟩
  · rcases List.mem_cons.mp hp with rfl | hp
    · exact x _ hm
    rcases List.mem_append.mp hp with hp | hp
    · exact hN p (inL (List.mem_filter.mp hp).1)
    · exact hN p (inR hp)
  · rcases List.mem_append.mp (hs p (mem_rest hp hn)) with h | h
    · exact inL (mem_rest h hn)
    · exact inR h
theorem with_rest {P : Prop} {h₀ h : Heap} {L tb : Addr} {ot : Obj} {M N : Led} (N3 : News h₀ L h N) (hm : (tb, ot) ∈ N) (c1 c2 : Addr × Obj) (h1 : c1 ∈ N) (h2 : c2 ∈ N) (n1 : c1.1 ≠ tb) (n2 : c2.1 ≠ tb) (hM : ∀ p ∈ M, p ∈ N) (hoff : ∀ p ∈ M, p.1 ≠ tb)
    (k : ∀ M1, News h₀ L h ((tb, ot) :: M1) → (∀ p ∈ M, p ∈ M1) → (∀ p ∈ M1, p.1 ≠ tb) → c1 ∈ M1 → c2 ∈ M1 → P) : P :=
  k (rest tb N) (newsFront N3 hm) (fun p hp => mem_rest (hM p hp) (hoff p hp)) rest_ne (mem_rest h1 n1) (mem_rest h2 n2)
set_option maxHeartbeats 16000000 in
theorem put_ok (w : World) {sh tb tr rx hd fl : Addr} {n g : Int} {ot oh : Obj} {kvs : List (Int × Value)} {hkvs : List (Str × Value)} {ev elv : Value} {els : List Value} {lE : List OV} {cf : Nat} {fvs : List Value} {fss : List (Four × List Four)} {M : Led}
    (hS : ShelfAt M sh tb tr) (hr : OvAt w M (.ref rx) (.ref n g)) (hoff : ∀ p ∈ M, p.1 ≠ tb) (hD : ot.IsDictOf (IK w) kvs) (lo : (tb == sysModules) = false) (hz : kvs.length < 20)
    (hev : valueAt kvs n = some ev) (hE : EntAt M ev g (.ref hd)) (hP : PlainV w M (.ref hd)) (hmh : (hd, oh) ∈ M) (hDh : oh.IsDictOf (SK w) hkvs) (loh : (hd == sysModules) = false) (hzh : hkvs.length < 50)
    (hel : Fetches w ((tb, ot) :: M) tb ((valueAt hkvs (Str.ofString "Annots")).getD .none) elv) (hk : (elv = .none ∧ els = []) ∨ ∃ E c, elv = .ref E ∧ (E, listOf els.toArray c) ∈ M ∧ OvAll w M els lE) (hez : els.length < 50)
    (hfl : (fl, listOf fvs.toArray cf) ∈ M) (hfs : AllR FindQ M fvs fss) (hfz : fss.length < 20) (hfw : ∀ q ∈ fss, q.2.length < 50) :
    Tell w 472 [.ref sh, .ref rx, .ref fl] 40 ((tb, ot) :: M) (fun r N' => r = .none ∧ PutOut w tb hd ot kvs hkvs els n g M fss N') := by
  unfold Tell
  k_fill
  intro loose mean mg mb dp un gd cn cs a0 ccd cl outer A₀ base h₀ L m s Q E B F X Nw T hcs hd' hu hret
  have sM : ∀ p ∈ M, p ∈ (tb, ot) :: M := fun p hp => .tail _ hp
  have hF1 : Fetches w ((tb, ot) :: M) tb (.ref rx) (.ref hd) := ⟨hP.mono sM, .inr ⟨n, g, ot, kvs, ev, hr.mono sM, .head _, hD, lo, hev, hE.mono sM⟩⟩
  have hfl' := hfs.len
  obtain ⟨da, g1, g2, u1, u2, hs1, hs2⟩ := id hS
  rcases hk with ⟨rfl, rfl⟩ | ⟨El, cE, rfl, hEl, hAll⟩
  · refine wpAny_call ?_
    k_dflt cell_enter
    rename_i gx Lx hx tkx FGx Fx Bx Xx Tx lx ox o2x dx d2x Nx
    walk
    rename Fr _ _ _ _ => F3
    rename News _ _ _ _ => N3
    have htb := lx.1
    refine with_rest N3 (by k_mem) (Lx + 1 + 1, ox) (Lx + 1, o2x) (by k_mem) (by k_mem) (Ne.symm (Nat.ne_of_lt (Nat.lt_succ_of_lt (Nat.lt_succ_of_lt htb)))) (Ne.symm (Nat.ne_of_lt (Nat.lt_succ_of_lt htb))) (by intro p hp; k_mem) hoff fun M1 N4 hM1 hoff1 hc1 hc2 => ?_
    clear N3
    k_dflt (refine LCg.Assign_ListComp_U (F₀ := by k_asm) (by rfl) (by rfl) (by with_unfolding_all rfl) (by decide) (by rfl) (by decide) (by rfl) (by rfl) (by rfl) ?_)
    walk
    have hS1 : ShelfAt M1 sh tb tr := hS.mono hM1
    have hr1 : OvAt w M1 (.ref rx) (.ref n g) := hr.mono hM1
    have hfl1 := hM1 _ hfl
    have hs1' := hM1 _ hs1
    have hs2' := hM1 _ hs2
    refine comp_list (fun pre ys nn => PutJ w tb kvs n g M1 fss pre ys nn ∧ (pre = [] → nn = (tb, ot) :: M1)) (by rfl) (by k_asm) (by k_asm) (by k_mem) (by omega) ⟨⟨ot, kvs, [], rfl, (fun _ h => nomatch h), above_nil, hD, by simp, fun _ _ h => h, by rw [List.length_nil, List.take_zero]; exact .nil⟩, fun _ => rfl⟩ ?_ ?_ ?_
    · rintro pre ys nn ⟨⟨otk, kvsk, tl, rfl, _⟩, _⟩
      exact .tail _ (inR hfl1)
    · rintro gg pre v post ys nn I oI C oC D m₂ h5 tk5 E' e ⟨⟨otk, kvsk, tl, rfl, hofft, hAt, hDk, hlk, hGk, hFk⟩, _⟩ hC hx F5 N5 off ne
      obtain ⟨q, hq, hqk⟩ := (show AllR FindQ M (pre ++ v :: post) fss from e ▸ hfs).here
      have hq1 : FindAt M1 v (q.1 :: q.2) := FindAt.mono hM1 hq
      have hqw := hfw q (List.mem_of_getElem? hqk)
      have hlp : pre.length < fss.length := (List.getElem?_eq_some_iff.mp hqk).1
      walk
      rename OvAt w (_ ++ M1) _ _ => hO
      rename Above _ (Three _ _ _ _ _ _ _) => hA9
      rename (valueAt kvsk _ = none) => hn9
      rename OvAt w _ _ (.ref _ 0) => hR9
      rename EntAt _ _ 0 _ => hE9
      rename Obj.IsDictOf (IK w) _ (stored kvsk _ _) => hD9
      rename Above _ (_ :: rest tb _) => hAA
      rename Fr _ _ _ _ => F9
      rename News _ _ _ _ => N9
      exact cEnd_mono (fun _ _ r => ⟨r, fun h => by simp at h⟩) (put_step hoff1 hofft hAt hlk hGk hFk hqk off hO hA9 hn9 hR9 hE9 hD9 F9 N9 hAA hfl1)
    · rintro gg ys nn ⟨⟨otk, kvsk, tl, rfl, hofft, hAt, hDk, hlk, hGk, hFk⟩, hnil⟩
      rw [List.take_of_length_le (by omega)] at hFk
      have hly := hFk.len
      intro Df hf tkf Ff Nf of1
      have offD := of1
      walk
      · rename (List.isEmpty ys = true) => he
        obtain rfl : ys = [] := List.isEmpty_iff.mp he
        have hf0 : fss = [] := List.eq_nil_of_length_eq_zero hly.symm
        have hv0 : fvs = [] := List.eq_nil_of_length_eq_zero (by rw [hfl', hf0]; rfl)
        obtain ⟨e2, _⟩ := List.cons.inj (hnil hv0)
        rename Fr h₀ L _ m => kF
        rename News h₀ L _ _ => kN
        cases e2
        obtain ⟨tlx, Nx1, ho, hAx, _⟩ := put_close kN (by k_mem) (by intro p hp; have hp1 := hM1 p hp; k_mem) hoff
        exact hret _ _ _ _ kF Nx1 ⟨rfl, _, kvs, tlx, rfl, ho, hAx, hD, fun _ => ⟨rfl, rfl⟩, fun h => absurd hf0 h⟩
      · rename (List.isEmpty ys = false) => he
        rename Obj.IsDictOf (SK w) _ (stored hkvs _ _) => hdf
        rename Obj.IsDictOf (IK w) _ (stored kvsk _ _) => hdt
        rename EntAt _ _ g _ => hen
        rename (_ ∈ _) => hfdm
        rename Above _ ((tb, _) :: rest tb _) => hA1
        rename Above _ ((_, listOf _ _) :: _) => hA2
        rename (_ < _ ∧ _ < _ ∧ _ < _ ∧ _ < _ ∧ tb < _ ∧ _) => hlt
        rename ((_ == sysModules) = false) => hlo
        rename_i kF kN Tc kX
        obtain ⟨tlx, Nx1, ho, hAx, hsx⟩ := put_close kN (.head _) (by intro p hp; have hp1 := hM1 p hp; exact .tail _ (inR (mem_rest (by k_mem) (hoff p hp)))) hoff
        have inT : ∀ p ∈ tl ++ M1, p ∈ tlx ++ M := fun p hp => by
          have hn : p.1 ≠ tb := by
            rcases List.mem_append.mp hp with h | h
            · exact hofft p h
            · exact hoff1 p h
          exact hsx p (.tail _ (inR (mem_rest (by k_mem) hn))) hn
        refine hret _ _ _ _ kF Nx1 ⟨rfl, _, _, tlx, rfl, ho, hAx, hdt, fun h => ?_, fun _ => ⟨_, _, _, _, ys, kvsk, 0, rfl, hGk, hen.mono ?_, ?_, hdf, hlo, ?_, AllR.imp (fun _ _ h => FreshAt.mono (fun _ _ h => h) inT h) hFk⟩⟩
        · rw [h] at hly
          rw [List.eq_nil_of_length_eq_zero hly] at he
          cases he
        · exact fun p hp => hsx p (.tail _ (inL hp)) (hA1 _ (.head _) p hp)
        · exact hsx _ (.tail _ (inR (mem_rest (inL hfdm) (hA2 (tb, otk) (by k_mem) _ hfdm)))) (hA2 (tb, otk) (by k_mem) _ hfdm)
        · exact hsx _ (.tail _ (inR (mem_rest (by k_mem) (Ne.symm (Nat.ne_of_lt hlt.2.2.2.2.1))))) (Ne.symm (Nat.ne_of_lt hlt.2.2.2.2.1))
  · have hO : OvAt w M (.ref El) (.arr lE) := .arr hEl hAll
    refine wpAny_call ?_
    k_dflt cell_enter
    rename_i gx Lx hx tkx FGx Fx Bx Xx Tx lx ox o2x dx d2x Nx
    walk
    rename Fr _ _ _ _ => F3
    rename News _ _ _ _ => N3
    have htb := lx.1
    refine with_rest N3 (by k_mem) (Lx + 1 + 1, ox) (Lx + 1, o2x) (by k_mem) (by k_mem) (Ne.symm (Nat.ne_of_lt (Nat.lt_succ_of_lt (Nat.lt_succ_of_lt htb)))) (Ne.symm (Nat.ne_of_lt (Nat.lt_succ_of_lt htb))) (by intro p hp; k_mem) hoff fun M1 N4 hM1 hoff1 hc1 hc2 => ?_
    clear N3
    k_dflt (refine LCg.Assign_ListComp_U (F₀ := by k_asm) (by rfl) (by rfl) (by with_unfolding_all rfl) (by decide) (by rfl) (by decide) (by rfl) (by rfl) (by rfl) ?_)
    walk
    have hS1 : ShelfAt M1 sh tb tr := hS.mono hM1
    have hr1 : OvAt w M1 (.ref rx) (.ref n g) := hr.mono hM1
    have hfl1 := hM1 _ hfl
    have hEl1 := hM1 _ hEl
    have hs1' := hM1 _ hs1
    have hs2' := hM1 _ hs2
    refine comp_list (fun pre ys nn => PutJ w tb kvs n g M1 fss pre ys nn ∧ (pre = [] → nn = (tb, ot) :: M1)) (by rfl) (by k_asm) (by k_asm) (by k_mem) (by omega) ⟨⟨ot, kvs, [], rfl, (fun _ h => nomatch h), above_nil, hD, by simp, fun _ _ h => h, by rw [List.length_nil, List.take_zero]; exact .nil⟩, fun _ => rfl⟩ ?_ ?_ ?_
    · rintro pre ys nn ⟨⟨otk, kvsk, tl, rfl, _⟩, _⟩
      exact .tail _ (inR hfl1)
    · rintro gg pre v post ys nn I oI C oC D m₂ h5 tk5 E' e ⟨⟨otk, kvsk, tl, rfl, hofft, hAt, hDk, hlk, hGk, hFk⟩, _⟩ hC hx F5 N5 off ne
      obtain ⟨q, hq, hqk⟩ := (show AllR FindQ M (pre ++ v :: post) fss from e ▸ hfs).here
      have hq1 : FindAt M1 v (q.1 :: q.2) := FindAt.mono hM1 hq
      have hqw := hfw q (List.mem_of_getElem? hqk)
      have hlp : pre.length < fss.length := (List.getElem?_eq_some_iff.mp hqk).1
      walk
      rename OvAt w (_ ++ M1) _ _ => hO
      rename Above _ (Three _ _ _ _ _ _ _) => hA9
      rename (valueAt kvsk _ = none) => hn9
      rename OvAt w _ _ (.ref _ 0) => hR9
      rename EntAt _ _ 0 _ => hE9
      rename Obj.IsDictOf (IK w) _ (stored kvsk _ _) => hD9
      rename Above _ (_ :: rest tb _) => hAA
      rename Fr _ _ _ _ => F9
      rename News _ _ _ _ => N9
      exact cEnd_mono (fun _ _ r => ⟨r, fun h => by simp at h⟩) (put_step hoff1 hofft hAt hlk hGk hFk hqk off hO hA9 hn9 hR9 hE9 hD9 F9 N9 hAA hfl1)
    · rintro gg ys nn ⟨⟨otk, kvsk, tl, rfl, hofft, hAt, hDk, hlk, hGk, hFk⟩, hnil⟩
      rw [List.take_of_length_le (by omega)] at hFk
      have hly := hFk.len
      intro Df hf tkf Ff Nf of1
      have offD := of1
      walk
      · rename (List.isEmpty ys = true) => he
        obtain rfl : ys = [] := List.isEmpty_iff.mp he
        have hf0 : fss = [] := List.eq_nil_of_length_eq_zero hly.symm
        have hv0 : fvs = [] := List.eq_nil_of_length_eq_zero (by rw [hfl', hf0]; rfl)
        obtain ⟨e2, _⟩ := List.cons.inj (hnil hv0)
        rename Fr h₀ L _ m => kF
        rename News h₀ L _ _ => kN
        cases e2
        obtain ⟨tlx, Nx1, ho, hAx, _⟩ := put_close kN (by k_mem) (by intro p hp; have hp1 := hM1 p hp; k_mem) hoff
        exact hret _ _ _ _ kF Nx1 ⟨rfl, _, kvs, tlx, rfl, ho, hAx, hD, fun _ => ⟨rfl, rfl⟩, fun h => absurd hf0 h⟩
      · rename (List.isEmpty ys = false) => he
        rename Obj.IsDictOf (SK w) _ (stored hkvs _ _) => hdf
        rename Obj.IsDictOf (IK w) _ (stored kvsk _ _) => hdt
        rename EntAt _ _ g _ => hen
        rename (_ ∈ _) => hfdm
        rename Above _ ((tb, _) :: rest tb _) => hA1
        rename Above _ ((_, listOf _ _) :: _) => hA2
        rename (_ < _ ∧ _ < _ ∧ _ < _ ∧ _ < _ ∧ tb < _ ∧ _) => hlt
        rename ((_ == sysModules) = false) => hlo
        rename_i kF kN Tc kX
        obtain ⟨tlx, Nx1, ho, hAx, hsx⟩ := put_close kN (.head _) (by intro p hp; have hp1 := hM1 p hp; exact .tail _ (inR (mem_rest (by k_mem) (hoff p hp)))) hoff
        have inT : ∀ p ∈ tl ++ M1, p ∈ tlx ++ M := fun p hp => by
          have hn : p.1 ≠ tb := by
            rcases List.mem_append.mp hp with h | h
            · exact hofft p h
            · exact hoff1 p h
          exact hsx p (.tail _ (inR (mem_rest (by k_mem) hn))) hn
        refine hret _ _ _ _ kF Nx1 ⟨rfl, _, _, tlx, rfl, ho, hAx, hdt, fun h => ?_, fun _ => ⟨_, _, _, _, ys, kvsk, 0, rfl, hGk, hen.mono ?_, ?_, hdf, hlo, ?_, AllR.imp (fun _ _ h => FreshAt.mono (fun _ _ h => h) inT h) hFk⟩⟩
        · rw [h] at hly
          rw [List.eq_nil_of_length_eq_zero hly] at he
          cases he
        · exact fun p hp => hsx p (.tail _ (inL hp)) (hA1 _ (.head _) p hp)
        · exact hsx _ (.tail _ (inR (mem_rest (inL hfdm) (hA2 (tb, otk) (by k_mem) _ hfdm)))) (hA2 (tb, otk) (by k_mem) _ hfdm)
        · exact hsx _ (.tail _ (inR (mem_rest (by k_mem) (Ne.symm (Nat.ne_of_lt hlt.2.2.2.2.1))))) (Ne.symm (Nat.ne_of_lt hlt.2.2.2.2.1))
end
section
abbrev excO (C tA : Addr) (dd : Option Addr) : Obj := { cls := .ref C, dict := dd, data := .fields #[.ref tA, .none, .none, .none, .bool false, .none] }
section
variable {M : Model} {A : Around} {E : Value → Shared → Prop} {env : Env}
variable {nm q : Str} {C N : Addr} {bs bm : List Value} {hdct : Bool} {sn : List Str} {sub : List Value} {ab : Bool} {col : Option Bool} {dd : Option Addr} {k0 k1 k2 k3 k5 : Option Value} {newId : String}
theorem raise_eval {s : Shared} {x : PySem.Expr} {pos : Pos} {Q : Flow → Shared → Prop} (hbase : bm.contains (.type "BaseException") = true) (hh : A.handled = none)
    (h : wpAny M A (eval x env) (fun v s₁ => ∃ e t dx, v = .ref e ∧ s₁.heap.get? C = some (excClassObj nm q C N bs bm hdct sn sub ab col dd k0 k1 k2 k3 k5 newId) ∧
      s₁.heap.get? e = some (excO C t dx) ∧ E (.ref e) s₁) E s) :
    wpAny M A (exec (.Raise (some x) none pos) env) Q E s := by
  have hcB : (Value.ref C :: bm).contains (.type "BaseException") = true := by rw [List.contains_cons, hbase, Bool.or_true]
  rw [arm_exec_Raise]
  simp only [evalOpt, Option.map]
  refine wpAny_bind (wpAny_standAt ?_)
  unfold raiseStmt
  refine wpAny_bind (wpAny_bind (wpAny_mono h (fun v s₁ h₁ => wpAny_bind (wpAny_standAt (wpAny_pure ?_))) fun _ _ x => x))
  obtain ⟨e, t, dx, rfl, hC, he, hE⟩ := h₁
  obtain ⟨hp, g, d, tk, os⟩ := s₁
  repeat (first | with_reducible refine wpAny_loadPart_at he ?_ | with_reducible refine wpAny_loadPart_at hC ?_ | (with_reducible refine wpAny_isSubtype_exc hC ?_; rw [hcB]) | wp_step)
  exact wpAny_raiseNew_none hh hE
end
section
variable {prog : Program} {w : World} {A : Around} {E : Value → Shared → Prop} {h : Heap} {g : Array GenState} {d : Drawn} {t : Nat} {os : OsState}
variable {nm q : Str} {C N : Addr} {bs bm bmB : List Value} {hdct : Bool} {sn : List Str} {sub : List Value} {ab : Bool} {col : Option Bool} {dd : Option Addr} {k0 k1 k2 k3 k5 : Option Value} {B newId initId : String}
theorem check_new_X (F : ExcBaseFacts B newId initId bmB) (b1 : bm.contains (.type B) = true) {M : Model} {rest : List Value} {Q : Unit → Shared → Prop} (hC : h.get? C = some (excClassObj nm q C N bs bm hdct sn sub ab col dd k0 k1 k2 k3 k5 newId))
    (hq : Q () ⟨h, g, d, t, os⟩) : wpAny M A (checkBuiltinCall newId ⟨.ref C :: rest, []⟩) Q E ⟨h, g, d, t, os⟩ := by
  have hcont : (Value.ref C :: bm).contains (.type B) = true := by rw [List.contains_cons, b1, Bool.or_true]
  have hstar := F.noStar
  simp only [checkBuiltinCall, F.newKind, F.newSplit, F.newRow]
  repeat (first | refine wpAny_loadPart_at hC ?_ | (refine wpAny_isSubtype_exc hC ?_; rw [hcont]) | refine wpAny_staticBase_exc hC ?_ | refine wpAny_madeBy_exc hC ?_ | simp only [bne_self_eq_false, Bool.false_eq_true, if_false] | wp_step)
  exact hq
theorem exc_new_X {R : Result → Shared → Prop} (F : ExcBaseFacts B newId initId bmB) (b1 : bm.contains (.type B) = true) (b2 : bm.contains (.type "AttributeError") = false) (b3 : bm.contains (.type "NameError") = false) {rest : List Value} (hC : h.get? C = some (excClassObj nm q C N bs bm hdct sn sub ab col dd k0 k1 k2 k3 k5 newId))
    (hq : R (.ok (.ret (.ref (h.objs.size + 1)))) ⟨(h.push { cls := .type "tuple", data := .seq rest.toArray }).push
      { cls := .ref C, data := .fields #[.ref h.objs.size, .none, .none, .none, .bool false, .none] }, g, d, t, os⟩) (hrest : rest.length ≤ sizeLine := by size_fits) :
    codeAny (model prog w) A (.builtin newId ⟨.ref C :: rest, []⟩) R ⟨h, g, d, t, os⟩ := by
  have hends := F.ends
  have hcB : (Value.ref C :: bm).contains (.type B) = true := by rw [List.contains_cons, b1, Bool.or_true]
  have hcA : (Value.ref C :: bm).contains (.type "AttributeError") = false := by rw [List.contains_cons, b2]; rfl
  have hcN : (Value.ref C :: bm).contains (.type "NameError") = false := by rw [List.contains_cons, b3]; rfl
  refine codeAny_builtinAt F.entry ?_
  unfold Builtin.«BaseException.__new__»
  refine PySem.wpAt_bind ?_
  show PySem.wpAt _ _ _ (stack >>= _) _ _ _
  refine PySem.wpAt_bind (PySem.wpAt_stack fun p below => PySem.wpAt_of_wpAny ?_)
  wp_walk
  refine PySem.wpAt_of_wpAny ?_
  rw [F.owner]
  repeat (first | with_reducible refine wpAny_madeHere_exc F.canon hC ?_ | with_reducible refine wpAny_loadPart_at hC ?_ | (with_reducible refine wpAny_isSubtype_exc hC ?_; first | rw [hcB] | rw [hcA] | rw [hcN]) | wp_step)
  show R _ _
  rw [Heap.size_push]
  exact hq
theorem check_init_X (F : ExcBaseFacts B newId initId bmB) (b1 : bm.contains (.type B) = true) {M : Model} {e : Addr} {oe : Obj} {rest : List Value} {Q : Unit → Shared → Prop}
    (hC : h.get? C = some (excClassObj nm q C N bs bm hdct sn sub ab col dd k0 k1 k2 k3 k5 newId)) (he : h.get? e = some oe) (hcls : oe.cls = .ref C) (hq : Q () ⟨h, g, d, t, os⟩) :
    wpAny M A (checkBuiltinCall initId ⟨.ref e :: rest, []⟩) Q E ⟨h, g, d, t, os⟩ := by
  have hcB : (Value.ref C :: bm).contains (.type B) = true := by rw [List.contains_cons, b1, Bool.or_true]
  have hshort := F.noStar
  simp only [checkBuiltinCall, F.initKind, F.initSplit, F.initRow]
  repeat (first | (with_reducible refine wpAny_loadPart_at he ?_; rw [hcls]) | with_reducible refine wpAny_loadPart_at hC ?_ | (with_reducible refine wpAny_isSubtype_exc hC ?_; rw [hcB]) | wp_step)
  refine wpAny_onRaise ?_
  rw [show ∀ (a b : String) (n : Nat), Bind.check ⟨.positional, "*", B, .self, [⟨"args", .varPos, false⟩]⟩ a b n (List.map (fun x => x.fst) ({ pos := Value.ref e :: rest } : Args).kw) = pure () from
    fun a b n => check_star_args _ _ _ _ _ _]
  exact wpAny_pure hq

theorem type_call_X {K : Frag} {fI : Addr} {oI : Obj} (F : ExcBaseFacts B newId initId bmB) (b1 : bm.contains (.type B) = true) (b2 : bm.contains (.type "AttributeError") = false) (b3 : bm.contains (.type "NameError") = false) {rest : List Value} {Q : Fin → Shared → Prop}
    (hC : h.get? C = some (excClassObj nm q C N bs bm hdct sn sub ab col dd k0 k1 k2 k3 k5 newId)) (X : K.In h) (hi : findIn K (.ref C) "__init__" = some (some (.ref fI))) (hfI : h.get? fI = some oI) (hfc : oI.cls = .type "function")
    (hq : ∀ h', (∀ b o, h.get? b = some o → h'.get? b = some o) → h'.get? (h.objs.size + 1) = some (excO C h.objs.size none) → h'.get? h.objs.size = some (tupO rest 0) →
      wpAny (model prog w) A (call (.ref fI) (.ref (h.objs.size + 1) :: rest)) (fun r s' => r = .none ∧ Q (.done (.ret (.ref (h.objs.size + 1)))) s') E ⟨h', g, d, t, os⟩) (hrest : rest.length ≤ sizeLine := by size_fits) :
    wpAny (model prog w) A (Builtin.«type.__call__» ⟨.ref C :: rest, []⟩) Q E ⟨h, g, d, t, os⟩ := by
  repeat (first | with_reducible refine wpAny_loadPart_at hC ?_ | with_reducible refine wpAny_madeBy_exc hC ?_ | wp_step)
  refine codeAny_call_builtin_code (Code.quiet_builtin _ F.quiet) (check_new_X F b1 hC ?_)
  refine exc_new_X F b1 b2 b3 hC ?_ hrest
  show wpAny _ _ _ _ _ _
  have up : ∀ b o, h.get? b = some o → ((h.push { cls := .type "tuple", data := .seq rest.toArray }).push { cls := .ref C, data := .fields #[.ref h.objs.size, .none, .none, .none, .bool false, .none] }).get? b = some o := fun b o e => Heap.get?_push_of_some _ (Heap.get?_push_of_some _ e)
  have hC₁ := up _ _ hC
  have hfI₁ := up _ _ hfI
  have hget : ((h.push { cls := .type "tuple", data := .seq rest.toArray }).push
      { cls := .ref C, data := .fields #[.ref h.objs.size, .none, .none, .none, .bool false, .none] }).get? (h.objs.size + 1) = some
      { cls := .ref C, data := .fields #[.ref h.objs.size, .none, .none, .none, .bool false, .none] } := by heap_get
  have hgt : ((h.push { cls := .type "tuple", data := .seq rest.toArray }).push
      { cls := .ref C, data := .fields #[.ref h.objs.size, .none, .none, .none, .bool false, .none] }).get? h.objs.size = some { cls := .type "tuple", data := .seq rest.toArray } := Heap.get?_push_of_some _ (Heap.get?_push_at rfl rfl)
  have hcC : (Value.ref C :: bm).contains (.ref C) = true := by simp
  have X₁ : K.In ((h.push { cls := .type "tuple", data := .seq rest.toArray }).push { cls := .ref C, data := .fields #[.ref h.objs.size, .none, .none, .none, .bool false, .none] }) := X.keeps up
  unfold isInstance
  repeat (first | with_reducible refine wpAny_loadPart_at hget ?_ | (with_reducible refine wpAny_isSubtype_exc hC₁ ?_; rw [hcC]) | wp_step)
  show wpAny _ _ (typeLookup (.ref C) _) _ _ _
  refine (looks_findIn X₁ hi).at ?_
  refine wpAny_holding (wpAny_bind ?_)
  unfold bindSpecial
  refine wpAny_bind (wpAny_typeOf (T := "function") ⟨_, hfI₁, hfc⟩ ?_)
  rw [if_pos (by decide)]
  refine wpAny_pure (wpAny_bind (wpAny_mono (hq _ up hget hgt) (fun r s' hr => ?_) fun _ _ x => x))
  obtain ⟨rfl, hQ⟩ := hr
  wp_walk
  exact hQ
theorem call_X {K : Frag} {fI : Addr} {oI : Obj} (F : ExcBaseFacts B newId initId bmB) (b1 : bm.contains (.type B) = true) (b2 : bm.contains (.type "AttributeError") = false) (b3 : bm.contains (.type "NameError") = false) {rest : List Value} {Q : Value → Shared → Prop}
    (hC : h.get? C = some (excClassObj nm q C N bs bm hdct sn sub ab col dd k0 k1 k2 k3 k5 newId)) (X : K.In h) (hi : findIn K (.ref C) "__init__" = some (some (.ref fI))) (hfI : h.get? fI = some oI) (hfc : oI.cls = .type "function")
    (hq : ∀ h', (∀ b o, h.get? b = some o → h'.get? b = some o) → h'.get? (h.objs.size + 1) = some (excO C h.objs.size none) → h'.get? h.objs.size = some (tupO rest 0) →
      wpAny (model prog w) (A.under (.builtin "type.__call__" ⟨.ref C :: rest, []⟩)) (call (.ref fI) (.ref (h.objs.size + 1) :: rest)) (fun r s' => r = .none ∧ Q (.ref (h.objs.size + 1)) s') E ⟨h', g, d, t, os⟩) (hrest : rest.length ≤ sizeLine := by size_fits) :
    wpAny (model prog w) A (call (.ref C) rest) Q E ⟨h, g, d, t, os⟩ := by
  have f1 := tc_lookup
  have f2 := tc_bind (.ref C)
  have hT : (⟨h, g, d, t, os⟩ : Shared).TypeIs (.ref C) "type" := ⟨_, hC, rfl⟩
  refine wpAny_call (codeAny_of_tree ?_)
  show wpAny _ _ (callAny (.ref C) _) _ _ _
  repeat (any_goals (first | assumption | with_reducible refine wpAny_loadPart_at hC ?_ | wp_step))
  refine ⟨rfl, ?_⟩
  refine codeAny_call_builtin_at (Code.quiet_builtin _ (by decide +kernel)) entry_typeCall (wpAny_check_type_call_sub hC (type_call_X F b1 b2 b3 hC X hi hfI hfc (hrest := hrest) hq))

/-- Exception.__init__ on an own exception -/
theorem init_X (F : ExcBaseFacts B newId initId bmB) (b1 : bm.contains (.type B) = true) {e tA : Addr} {dx : Option Addr} {rest : List Value} {Q : Value → Shared → Prop}
    (hC : h.get? C = some (excClassObj nm q C N bs bm hdct sn sub ab col dd k0 k1 k2 k3 k5 newId)) (he : h.get? e = some (excO C tA dx))
    (hq : ∀ h', (∀ b o, b ≠ e → h.get? b = some o → h'.get? b = some o) → h'.get? e = some (excO C h.objs.size dx) → h'.get? h.objs.size = some (tupO rest 0) → Q .none ⟨h', g, d, t, os⟩) (hrest : rest.length ≤ sizeLine := by size_fits) :
    wpAny (model prog w) A (call (.builtin initId) (.ref e :: rest)) Q E ⟨h, g, d, t, os⟩ := by
  refine wpAny_call (codeAny_call_builtin F.init.plain F.initEntry (check_init_X F b1 hC he rfl ?_))
  have hlt := Heap.lt_size he
  have he' : (h.push { cls := .type "tuple", data := .seq rest.toArray }).get? e = some (excO C tA dx) := Heap.get?_push_of_some _ he
  wp_walk
  refine hq _ (fun b o hb hbo => ?_) ?_ ?_
  · rw [Heap.get?_update_other _ _ (Ne.symm hb)]
    exact Heap.get?_push_of_some _ hbo
  · rw [Heap.get?_update_self _ he' rfl]
    rfl
  · rw [Heap.get?_update_other _ _ (Nat.ne_of_lt hlt)]
    exact Heap.get?_push_at rfl rfl
end
section
variable {prog : Program} {w : World} {A : Around} {E : Value → Shared → Prop} {h : Heap} {g : Array GenState} {d : Drawn} {t : Nat} {os : OsState}
variable {nm q : Str} {C N x : Addr} {bs bm : List Value} {sn : List Str} {sub : List Value} {ab : Bool} {col : Option Bool} {dd : Option Addr} {k0 k1 k2 k3 k5 : Option Value} {newId : String}
  {mA : Str → Option Value} {name : Str} {v : Value}
open Builtin Builtin.ObjectAttr
theorem store_entry0 {K : Frag} {tk : Tok} {Q : PySem.Fin → Shared → Prop} (hC : h.get? C = some (excClassObj nm q C N bs bm true sn sub ab col dd k0 k1 k2 k3 k5 newId)) (hpass : refuseLoop (.ref x) "__setattr__" bm = pure ()) (X : K.In h) (hna : findIn K (.ref C) name = some none)
    {o : Obj} (hx : h.get? x = some o) (hc : o.cls = .ref C) (hnc : ∀ c, o.data ≠ .cls c)
    (hdn : o.dict = none)
    (hq : ∀ h' tk', h'.get? x = some { cls := o.cls, dict := some h.objs.size, data := o.data, slots := o.slots } → h'.Ns1 h.objs.size (fun y => if y = name then some v else none) → (∀ b o, b ≠ x → h.get? b = some o → h'.get? b = some o) → Q (.done (.ret .none)) ⟨h', g, d, tk', os⟩) :
    wpAny (model prog w) A (Builtin.«object.__setattr__» ⟨[.ref x, .str name tk, v], []⟩) Q E ⟨h, g, d, t, os⟩ := by
  unfold Builtin.«object.__setattr__»
  repeat (first | rw [refuse_eq] | (rw [refuseLoop_ref, hpass]) | (with_reducible refine wpAny_loadPart_at hx ?_; rw [hc]) | with_reducible refine wpAny_mroOf_exc hC ?_ | (with_reducible refine (looks_findIn X hna).at ?_) | wp_step)
  rw [hdn, if_neg (by simp [typeHasDict])]
  split
  · rename_i hcd
    cases hcd
  split
  · rename_i c hcd
    exact absurd hcd (hnc c)
  · have hx₁ : (h.push { cls := .type "dict", data := .dict #[] }).get? x = some o := Heap.get?_push_of_some _ hx
    have hxs : x ≠ h.objs.size := Nat.ne_of_lt (Heap.lt_size hx)
    refine wpAny_bind (wpAny_alloc' ?_)
    refine wpAny_bind (wpAny_update' hx₁ ?_)
    refine wpAny_pure ?_
    have hgd : ((h.push { cls := .type "dict", data := .dict #[] }).update x fun o => { cls := o.cls, dict := some h.objs.size, data := o.data, slots := o.slots }).get? h.objs.size
        = some { cls := .type "dict", data := .dict #[] } :=
      (Heap.get?_update_ne _ _ _ _ hxs.symm).trans (Heap.get?_push_at rfl rfl)
    have hnd : ((h.push { cls := .type "dict", data := .dict #[] }).update x fun o => { cls := o.cls, dict := some h.objs.size, data := o.data, slots := o.slots }).Ns h.objs.size (fun _ => none) :=
      ⟨_, #[], _, hgd, rfl, fun e he => absurd he (by simp), fun _ => rfl⟩
    show wpAny _ _ (storeInDict h.objs.size (.str name tk) name v) _ _ _
    unfold storeInDict newKeyGuard
    refine wpAny_bind (wpAny_pure (wpAny_bind (wpAny_nsSet1 (Heap.Ns1.of_empty hnd) fun h' hn' hs => ?_)))
    obtain ⟨oD, esD, epD, hoD, hdD, hcD⟩ := hn'.count (Within.cons name v Within.nil)
    refine wpAny_bind (wpAny_lookBehind hoD (by rw [hdD]; exact pastItsLine_dict (Nat.le_trans hcD (by rw [List.length_cons, List.length_nil, sizeLine_eq]; omega))) ?_)
    wp_walk
    refine hq h' _ ?_ hn' fun b ob hbx hb => (hs.2 b (Nat.ne_of_lt (Heap.lt_size hb))).trans ((Heap.get?_update_ne _ _ _ _ hbx).trans (Heap.get?_push_of_some _ hb))
    refine (hs.2 x hxs).trans (Heap.get?_update_self _ hx₁ ?_)
    have hfr := (Heap.get?_some_iff.mp hx).2
    obtain ⟨oc, od, odt, osl⟩ := o
    cases odt <;> first | rfl | exact hfr
theorem store_entry1 {K : Frag} {tk : Tok} {Q : PySem.Fin → Shared → Prop} {ns : List Str} (hC : h.get? C = some (excClassObj nm q C N bs bm true sn sub ab col dd k0 k1 k2 k3 k5 newId)) (hpass : refuseLoop (.ref x) "__setattr__" bm = pure ()) (X : K.In h) (hna : findIn K (.ref C) name = some none)
    {o : Obj} (hx : h.get? x = some o) (hc : o.cls = .ref C) (hnc : ∀ c, o.data ≠ .cls c)
    {dx : Addr} (hdx : o.dict = some dx) (hne : dx ≠ x) (hns : h.Ns1 dx mA)
    (hq : ∀ h' tk', h'.get? x = some o → (∀ b o, b ≠ dx → h.get? b = some o → h'.get? b = some o) → Q (.done (.ret .none)) ⟨h', g, d, tk', os⟩) (hw : Within mA ns := by within_ways) (hsz : ns.length ≤ sizeLine := by size_fits) :
    wpAny (model prog w) A (Builtin.«object.__setattr__» ⟨[.ref x, .str name tk, v], []⟩) Q E ⟨h, g, d, t, os⟩ := by
  unfold Builtin.«object.__setattr__»
  repeat (first | rw [refuse_eq] | (rw [refuseLoop_ref, hpass]) | (with_reducible refine wpAny_loadPart_at hx ?_; rw [hc]) | with_reducible refine wpAny_mroOf_exc hC ?_ | (with_reducible refine (looks_findIn X hna).at ?_) | wp_step)
  rw [hdx]
  refine wpAny_pure ?_
  show wpAny _ _ (storeInDict dx (.str name tk) name v) _ _ _
  unfold storeInDict newKeyGuard
  refine wpAny_bind (wpAny_pure (wpAny_bind (wpAny_nsSet1 hns fun h' hn' hs => ?_)))
  obtain ⟨oD, esD, epD, hoD, hdD, hcD⟩ := hn'.count (Within.cons name v hw)
  refine wpAny_bind (wpAny_lookBehind hoD (by rw [hdD]; exact pastItsLine_dict (Nat.le_trans hcD (by rw [List.length_cons]; omega))) ?_)
  wp_walk
  exact hq h' _ ((hs.2 x hne.symm).trans hx) fun b ob hbd hb => (hs.2 b hbd).trans hb
theorem check_sa_X {M : Model} {o : Obj} {nameV : Value} {Q : Unit → Shared → Prop} (hob : bm.contains (.type "object") = true)
    (hC : h.get? C = some (excClassObj nm q C N bs bm true sn sub ab col dd k0 k1 k2 k3 k5 newId)) (hx : h.get? x = some o) (hc : o.cls = .ref C) (hq : Q () ⟨h, g, d, t, os⟩) :
    wpAny M A (checkBuiltinCall "object.__setattr__" ⟨[.ref x, nameV, v], []⟩) Q E ⟨h, g, d, t, os⟩ := by
  have SF := PySem.F.store_object
  have hcB : (Value.ref C :: bm).contains (.type "object") = true := by rw [List.contains_cons, hob, Bool.or_true]
  have ha := SF.args (.ref x) nameV v
  simp only [checkBuiltinCall, SF.kind, SF.split]
  refine wpAny_bind ?_
  · unfold isInstance
    repeat (first | (with_reducible refine wpAny_loadPart_at hx ?_; rw [hc]) | (with_reducible refine wpAny_isSubtype_exc hC ?_; rw [hcB]) | wp_step)
    exact hq
theorem store_attr0 {K : Frag} {Q : Unit → Shared → Prop} (hob : bm.contains (.type "object") = true) (hsa : findIn K (.ref C) "__setattr__" = some (some (.builtin "object.__setattr__")))
    (hC : h.get? C = some (excClassObj nm q C N bs bm true sn sub ab col dd k0 k1 k2 k3 k5 newId)) (hpass : refuseLoop (.ref x) "__setattr__" bm = pure ()) (X : K.In h) (hna : findIn K (.ref C) name = some none)
    {o : Obj} (hx : h.get? x = some o) (hc : o.cls = .ref C) (hnc : ∀ c, o.data ≠ .cls c)
    (hdn : o.dict = none)
    (hq : ∀ h' tk', h'.get? x = some { cls := o.cls, dict := some h.objs.size, data := o.data, slots := o.slots } → h'.Ns1 h.objs.size (fun y => if y = name then some v else none) → (∀ b o, b ≠ x → h.get? b = some o → h'.get? b = some o) → Q () ⟨h', g, d, tk', os⟩) :
    wpAny (model prog w) A (setAttr (.ref x) name v) Q E ⟨h, g, d, t, os⟩ := by
  have f3 := PySem.F.store_object.slot.bind (.ref x)
  unfold setAttr callSpecial? specialOf
  repeat (any_goals (first | assumption | (with_reducible refine wpAny_loadPart_at hx ?_; rw [hc]) | (with_reducible refine (looks_findIn X hsa).at ?_) | wp_step))
  refine codeAny_call_builtin PySem.F.store_object.slot.plain PySem.F.store_object.entry (check_sa_X hob hC hx hc (store_entry0 hC hpass X hna hx hc hnc hdn (fun h' tk' p1 p2 p3 => ?_)))
  repeat (any_goals (first | assumption | wp_step))
  exact hq h' _ p1 p2 p3
theorem store_attr1 {K : Frag} {Q : Unit → Shared → Prop} {ns : List Str} (hob : bm.contains (.type "object") = true) (hsa : findIn K (.ref C) "__setattr__" = some (some (.builtin "object.__setattr__")))
    (hC : h.get? C = some (excClassObj nm q C N bs bm true sn sub ab col dd k0 k1 k2 k3 k5 newId)) (hpass : refuseLoop (.ref x) "__setattr__" bm = pure ()) (X : K.In h) (hna : findIn K (.ref C) name = some none)
    {o : Obj} (hx : h.get? x = some o) (hc : o.cls = .ref C) (hnc : ∀ c, o.data ≠ .cls c)
    {dx : Addr} (hdx : o.dict = some dx) (hne : dx ≠ x) (hns : h.Ns1 dx mA)
    (hq : ∀ h' tk', h'.get? x = some o → (∀ b o, b ≠ dx → h.get? b = some o → h'.get? b = some o) → Q () ⟨h', g, d, tk', os⟩) (hw : Within mA ns := by within_ways) (hsz : ns.length ≤ sizeLine := by size_fits) :
    wpAny (model prog w) A (setAttr (.ref x) name v) Q E ⟨h, g, d, t, os⟩ := by
  have f3 := PySem.F.store_object.slot.bind (.ref x)
  unfold setAttr callSpecial? specialOf
  repeat (any_goals (first | assumption | (with_reducible refine wpAny_loadPart_at hx ?_; rw [hc]) | (with_reducible refine (looks_findIn X hsa).at ?_) | wp_step))
  refine codeAny_call_builtin PySem.F.store_object.slot.plain PySem.F.store_object.entry (check_sa_X hob hC hx hc (store_entry1 hC hpass X hna hx hc hnc hdx hne hns (fun h' tk' p1 p2 => ?_) hw hsz))
  repeat (any_goals (first | assumption | wp_step))
  exact hq h' _ p1 p2
end
abbrev bm59 : List Value := [.ref 46, .type "Exception", .type "BaseException", .type "object"]
abbrev co59 : Obj := excClassObj (Str.ofString "TreeFault") (Str.ofString "TreeFault") 59 58 [.ref 46] bm59 true [] [] false none none (some (.ref 50)) none (some (.str (Str.ofString "TreeFault") 236)) (some (.str (Str.ofString "TreeFault") 244)) (some (.bool true)) "Exception.__new__"
theorem cls59 {w : World} {h : Heap} (X : (Mine.hd.heap_39 w.params).In h) : h.get? 59 = some co59 := X _ _ (by rfl)
theorem pass59 (x : Addr) : refuseLoop (.ref x) "__setattr__" bm59 = pure () := by
  rw [refuseLoop_ref]; exact PySem.F.store_Exception.passes _
theorem fi_init (P : Params) : findIn (Mine.hd.heap_39 P) (.ref 59) "__init__" = some (some (.ref 36)) := by rfl
theorem fi_sa (P : Params) : findIn (Mine.hd.heap_39 P) (.ref 59) "__setattr__" = some (some (.builtin "object.__setattr__")) := by rfl
theorem fi_what (P : Params) : findIn (Mine.hd.heap_39 P) (.ref 59) (Str.ofString "what") = some none := by rfl
theorem fi_at (P : Params) : findIn (Mine.hd.heap_39 P) (.ref 59) (Str.ofString "at") = some none := by rfl
theorem fo36 (P : Params) : ∃ o, (Mine.hd.heap_39 P).lookup 36 = some o ∧ o.cls = .type "function" := ⟨_, by rfl, by rfl⟩
section
variable {w : World} {A : Around} {E : Value → Shared → Prop} {s : Shared} {h₀ : Heap} {L e tA : Addr} {m : Str → Option Value} {news : Led} {v : Value}
theorem init_mem {dx : Option Addr} {Q : Value → Shared → Prop} (F : Fr h₀ L s.heap m) (X : (Mine.hd.heap_39 w.params).In h₀) (N : News h₀ L s.heap news) (hm : (e, excO 59 tA dx) ∈ news)
    (h : ∀ tB h', Fr h₀ L h' m → News h₀ L h' ((e, excO 59 tB dx) :: (tB, tupO [v] 0) :: rest e news) → (∀ p ∈ news, @LT.lt Nat _ p.1 tB) → Q .none { s with heap := h' }) :
    wpAny (model PySem.Challenge.rw_pb0480_01.row.prog w) A (call (.builtin "Exception.__init__") [.ref e, v]) Q E s := by
  obtain ⟨hh, g, d, t, os⟩ := s
  have he := N _ hm
  have hlt := Heap.lt_size he.1
  refine init_X (bm := bm59) PySem.F.excBase_Exception (by decide +kernel) (cls59 (X.keeps F.keep)) he.1 (fun h' k1 k2 k3 => ?_) (by size_fits)
  have hL : e ≠ L := he.2.1
  have up : ∀ b o, b ≠ e → hh.get? b = some o → h'.get? b = some o := k1
  refine h _ h' ⟨F.ns.at' fun o q => up _ _ (Ne.symm hL) q, fun b o q => up b o (fun z => by rw [z, he.2.2] at q; cases q) (F.keep b o q), F.above⟩ (fun p hp => ?_) fun p hp => Heap.lt_size (N p hp).1
  rcases List.mem_cons.mp hp with rfl | hp
  · exact ⟨k2, he.2⟩
  rcases List.mem_cons.mp hp with rfl | hp
  · exact ⟨k3, Ne.symm (Nat.ne_of_lt F.ns.lt), next_is_new F⟩
  · have hp' := (List.mem_filter.mp hp).1
    exact ⟨up _ _ (rest_ne p hp) (N p hp').1, (N p hp').2⟩
theorem set0_mem {name : Str} {Q : Unit → Shared → Prop} (F : Fr h₀ L s.heap m) (X : (Mine.hd.heap_39 w.params).In h₀) (N : News h₀ L s.heap news) (hm : (e, excO 59 tA none) ∈ news) (hn : findIn (Mine.hd.heap_39 w.params) (.ref 59) name = some none)
    (h : ∀ dx od h' tk, Fr h₀ L h' m → News h₀ L h' ((e, excO 59 tA (some dx)) :: (dx, od) :: rest e news) → (∀ p ∈ news, @LT.lt Nat _ p.1 dx) → (∀ h₉ : Heap, h₉.get? dx = some od → h₉.Ns1 dx (fun y => if y = name then some v else none)) → Q () { s with heap := h', toks := tk }) :
    wpAny (model PySem.Challenge.rw_pb0480_01.row.prog w) A (setAttr (.ref e) name v) Q E s := by
  obtain ⟨hh, g, d, t, os⟩ := s
  have he := N _ hm
  have hlt := Heap.lt_size he.1
  have XK := X.keeps F.keep
  refine store_attr0 (bm := bm59) (o := excO 59 tA none) (by decide +kernel) (fi_sa _) (cls59 XK) (pass59 _) XK hn he.1 rfl (fun c q => by cases q) rfl fun h' tk' k1 k2 k3 => ?_
  have hL : e ≠ L := he.2.1
  obtain ⟨od, es, ep, q1, q2, q3, q4, q5⟩ := k2
  refine h _ od h' tk' ⟨F.ns.at' fun o q => k3 _ _ (Ne.symm hL) q, fun b o q => k3 b o (fun z => by rw [z, he.2.2] at q; cases q) (F.keep b o q), F.above⟩ (fun p hp => ?_) (fun p hp => Heap.lt_size (N p hp).1) fun h₉ e9 => ⟨od, es, ep, e9, q2, q3, q4, q5⟩
  rcases List.mem_cons.mp hp with rfl | hp
  · exact ⟨k1, he.2⟩
  rcases List.mem_cons.mp hp with rfl | hp
  · exact ⟨q1, Ne.symm (Nat.ne_of_lt F.ns.lt), next_is_new F⟩
  · have hp' := (List.mem_filter.mp hp).1
    exact ⟨k3 _ _ (rest_ne p hp) (N p hp').1, (N p hp').2⟩
theorem set1_mem {name n0 : Str} {v0 : Value} {dx : Addr} {od : Obj} {Q : Unit → Shared → Prop} (F : Fr h₀ L s.heap m) (X : (Mine.hd.heap_39 w.params).In h₀) (N : News h₀ L s.heap news) (hm : (e, excO 59 tA (some dx)) ∈ news) (hd : (dx, od) ∈ news) (hne : dx ≠ e) (hn : findIn (Mine.hd.heap_39 w.params) (.ref 59) name = some none)
    (hod : ∀ h₉ : Heap, h₉.get? dx = some od → h₉.Ns1 dx (fun y => if y = n0 then some v0 else none))
    (h : ∀ h' tk, Fr h₀ L h' m → News h₀ L h' (rest dx news) → Q () { s with heap := h', toks := tk }) :
    wpAny (model PySem.Challenge.rw_pb0480_01.row.prog w) A (setAttr (.ref e) name v) Q E s := by
  obtain ⟨hh, g, d, t, os⟩ := s
  have he := N _ hm
  have hdx := N _ hd
  have XK := X.keeps F.keep
  refine store_attr1 (bm := bm59) (o := excO 59 tA (some dx)) (ns := [n0]) (by decide +kernel) (fi_sa _) (cls59 XK) (pass59 _) XK hn he.1 rfl (fun c q => by cases q) rfl hne (hod _ hdx.1) (fun h' tk' k1 k3 => ?_) (Within.cons _ _ Within.nil)
  have hL : dx ≠ L := hdx.2.1
  refine h h' tk' ⟨F.ns.at' fun o q => k3 _ _ (Ne.symm hL) q, fun b o q => k3 b o (fun z => by rw [z, hdx.2.2] at q; cases q) (F.keep b o q), F.above⟩ fun p hp => ?_
  have hp' := (List.mem_filter.mp hp).1
  exact ⟨k3 _ _ (rest_ne p hp) (N p hp').1, (N p hp').2⟩
end
theorem meta_Exc : typeOf (.type "Exception") = pure (.type "type") := by kernel_rfl
local macro_rules | `(tactic| walk_at "getMethod") => `(tactic| (k_here; (with_reducible show wpAny _ _ (getMethod (Value.type "Exception") _ _) _ _ _); refine' method_type ?F ?X ?m (by decide +kernel) ?e ?h ?_; (case F => k_asm); (case X => k_asm); (case m => exact meta_Exc); (case e => k_dflt k_is); (case h => k_handed)))
set_option maxHeartbeats 4000000 in
theorem exc_new (w : World) (msg : Str) (tm : Tok) (N : Led) :
    Tell w 59 [.str msg tm] 4 N (fun r N' => ∃ e t dx, r = .ref e ∧ N' = (e, excO 59 t dx) :: (t, tupO [.str msg tm] 0) :: N ∧ (∀ p ∈ N, p.1 ≠ e ∧ p.1 ≠ t) ∧ t ≠ e) := by
  unfold Tell
  k_fill
  intro loose mean mg mb dp un gd cn cs a ccd cl outer A₀ base h₀ L m s Q E B F X Nw T hcs hd hu hret
  obtain ⟨hh, g, d, t, os⟩ := s
  have XK := X.keeps F.keep
  obtain ⟨oI, hI, hIf⟩ := fo36 w.params
  refine call_X (bm := bm59) PySem.F.excBase_Exception (by decide +kernel) (by decide +kernel) (by decide +kernel) (cls59 XK) XK (fi_init _) (XK _ _ hI) hIf (fun h' up hge hgt => ?_) (by size_fits)
  have hLh : @LT.lt Nat _ L hh.objs.size := F.ns.lt
  have none₀ : ∀ a, hh.objs.size ≤ a → h₀.get? a = none := fun a ha => by
    cases e : h₀.get? a with
    | none => rfl
    | some o' => exact absurd (Heap.lt_size (F.keep a o' e)) (Nat.not_lt.mpr ha)
  have lN : ∀ p ∈ N, @LT.lt Nat _ p.1 hh.objs.size := fun p hp => Heap.lt_size (Nw p hp).1
  have hLL : @LT.lt Nat _ L (hh.objs.size + 1) := Nat.lt_succ_of_lt hLh
  have lNe : ∀ p ∈ N, @LT.lt Nat _ p.1 (hh.objs.size + 1) := fun p hp => Nat.lt_succ_of_lt (lN p hp)
  have hte : @LT.lt Nat _ hh.objs.size (hh.objs.size + 1) := Nat.lt_succ_self _
  have n1 := none₀ _ (Nat.le_refl _)
  have n2 := none₀ (hh.objs.size + 1) (Nat.le_succ _)
  generalize hh.objs.size + 1 = e at *
  generalize hh.objs.size = tA at *
  have F1 : Fr h₀ L h' m := F.keeps up
  have N1 : News h₀ L h' ((e, excO 59 tA none) :: (tA, tupO [.str msg tm] 0) :: N) := fun p hp => by
    rcases List.mem_cons.mp hp with rfl | hp
    · exact ⟨hge, Ne.symm (Nat.ne_of_lt hLL), n2⟩
    rcases List.mem_cons.mp hp with rfl | hp
    · exact ⟨hgt, Ne.symm (Nat.ne_of_lt hLh), n1⟩
    · exact ⟨up _ _ (Nw p hp).1, (Nw p hp).2⟩
  clear F Nw hge hgt XK
  refine wpAny_call ?_
  k_dflt kdv_enter
  walk
  k_dflt (refine init_mem (by k_asm) (by k_asm) (by k_asm) (by k_mem) ?_)
  intro tB h2 F2 N2 lB
  walk
  k_dflt (refine set0_mem (by k_asm) (by k_asm) (by k_asm) (by k_mem) (fi_what _) ?_)
  intro dx od h3 tk3 F3 N3 lD hod
  walk
  k_dflt (refine set1_mem (by k_asm) (by k_asm) (by k_asm) (by k_mem) (by k_mem) (Ne.symm (Nat.ne_of_lt (lD _ (.head _)))) (fi_at _) hod ?_)
  intro h4 tk4 F4 N4
  walk
  rename_i kF kN Tc kX
  have mN : ∀ p ∈ N, p ∈ rest dx ((e, excO 59 tB (some dx)) :: (dx, od) :: rest e ((e, excO 59 tB none) :: (tB, tupO [Value.str msg tm] 0) :: rest e ((e, excO 59 tA none) :: (tA, tupO [Value.str msg tm] 0) :: N))) := fun p hp =>
    have ne : p.1 ≠ e := Nat.ne_of_lt (lNe p hp)
    have m1 : p ∈ rest e ((e, excO 59 tA none) :: (tA, tupO [Value.str msg tm] 0) :: N) := mem_rest (.tail _ (.tail _ hp)) ne
    mem_rest (.tail _ (.tail _ (mem_rest (.tail _ (.tail _ m1)) ne))) (Nat.ne_of_lt (lD p (.tail _ (.tail _ m1))))
  have ltB : @LT.lt Nat _ e tB := lB _ (.head _)
  refine hret _ _ _ _ kF (newsSub kN fun p hp => ?_) ⟨e, tB, some dx, rfl, rfl, fun p hp => ⟨Nat.ne_of_lt (lNe p hp), Nat.ne_of_lt (Nat.lt_trans (lNe p hp) ltB)⟩, Ne.symm (Nat.ne_of_lt ltB)⟩
  rcases List.mem_cons.mp hp with rfl | hp
  · exact mem_rest (.head _) (Nat.ne_of_lt (lD (e, excO 59 tB none) (.head _)))
  rcases List.mem_cons.mp hp with rfl | hp
  · exact mem_rest (.tail _ (.tail _ (mem_rest (.tail _ (.head _)) (Ne.symm (Nat.ne_of_lt ltB))))) (Nat.ne_of_lt (lD _ (.tail _ (.head _))))
  · exact mN p hp

theorem leave_raiseX {M : Model} {A : Around} {E : Value → Shared → Prop} {s' : Shared} {base g : Heap} {outer : List Env} {L e t C : Addr} {m : Str → Option Value} {env : Env} {Q : Unit → Shared → Prop} {news : Led} {vs : List Value} {c : Nat} {dx : Option Addr}
    (K : Below A base outer g) (hf : env.frame = some L) (hk : env.scope.kind = .function) (F : Fr g L s'.heap m) (N : News g L s'.heap ((e, excO C t dx) :: (t, tupO vs c) :: news)) (hne : ∀ q ∈ news, q.1 ≠ e ∧ q.1 ≠ t) (hte : t ≠ e)
    (hQ : ∀ h' , RaisedS base g outer e (.ref C) t vs news h' → g.UpToSlots h' → Q () { s' with heap := h' }) :
    wpAny M (A.deeper env) (leaving env (.ref e)) Q E s' := by
  have K' := pushX K F hf hk
  have he := N _ (.head _)
  have ht := N _ (.tail _ (.head _))
  generalize has : (env :: outer).filterMap (·.frame) = as
  have hin : ∀ ev ∈ (env :: outer), ∀ b, ev.frame = some b → b ∈ e :: t :: as := fun ev hev b hb => .tail _ (.tail _ (has ▸ List.mem_filterMap.mpr ⟨ev, hev, hb⟩))
  have bnone : ∀ b, g.get? b = none → base.get? b = none := fun b hb => fresh_of_stays K.stays hb
  have asL : ∀ b ∈ as, b = L ∨ b ∈ outer.filterMap (·.frame) := fun b hb => by
    rw [← has] at hb
    obtain ⟨ev, hev, hfe⟩ := List.mem_filterMap.mp hb
    rcases List.mem_cons.mp hev with rfl | hev
    · exact .inl (Option.some.inj (hfe.symm.trans hf))
    · exact .inr (List.mem_filterMap.mpr ⟨ev, hev, hfe⟩)
  have st : base.StaysIn (hideAll s'.heap (e :: t :: as)) := fun b o q => hideAll_get _ (K'.stays b o q) fun hm => by
    rcases List.mem_cons.mp hm with rfl | hm
    · rw [bnone _ he.2.2] at q; cases q
    rcases List.mem_cons.mp hm with rfl | hm
    · rw [bnone _ ht.2.2] at q; cases q
    · rw [← has] at hm
      rw [(K'.frames.mem hm).1] at q; cases q
  have sg : ∀ b o, g.get? b = some o → b ∉ outer.filterMap (·.frame) → (hideAll s'.heap (e :: t :: as)).get? b = some o := fun b o q nm => hideAll_get _ (F.keep b o q) fun hm => by
    rcases List.mem_cons.mp hm with rfl | hm
    · rw [he.2.2] at q; cases q
    rcases List.mem_cons.mp hm with rfl | hm
    · rw [ht.2.2] at q; cases q
    rcases asL b hm with z | z
    · rw [z, kts_self F] at q; cases q
    · exact nm z
  have hl : ∀ q ∈ news, (hideAll s'.heap (e :: t :: as)).get? q.1 = some q.2 ∧ g.get? q.1 = none ∧ base.get? q.1 = none := fun q hq => by
    have hN := N q (.tail _ (.tail _ hq))
    refine ⟨hideAll_get _ hN.1 fun hm => ?_, hN.2.2, bnone _ hN.2.2⟩
    rcases List.mem_cons.mp hm with z | hm
    · exact (hne q hq).1 z
    rcases List.mem_cons.mp hm with z | hm
    · exact (hne q hq).2 z
    rcases asL _ hm with z | z
    · exact hN.2.1 z
    · obtain ⟨o, ho, _⟩ := (K.frames.mem z).2
      rw [hN.2.2] at ho; cases ho
  have hen : (hideAll s'.heap (e :: t :: as)).get? e = none := hideAll_none _ (.head _)
  have htn : (hideAll s'.heap (e :: t :: as)).get? t = none := hideAll_none _ (.tail _ (.head _))
  refine wpAny_leaving_firstW (base := hideAll s'.heap (e :: t :: as)) (a0 := .ref t) (outer := outer) K'.stack (funFrames_hide K'.frames hin) hf he.1 (fun b o q => of_hideAll _ q) hen rfl rfl rfl fun h' hL => ?_
  obtain ⟨k1, ⟨_, _, k2⟩, k3, k4⟩ := hL
  exact hQ h' ⟨⟨_, st, sg, hl, ⟨k1, hen, k2, k3⟩, htn⟩, Heap.TupAt.of_slots ⟨_, _, ht.1, rfl, rfl⟩ k4⟩ ((Heap.UpToSlots.of_keeps F.keep).trans k4)
end
section
/-- what a call of f does that raises TreeFault -/
def TellX (w : World) (f : Addr) (vs : List Value) (k : Nat) (N : Led) : Prop :=
  ∀ (loose : List Str) (mean : ExcName → Option Value) (mg mb : Str → Option Value) (dp un : Nat) (gd : Option (List Code)) (cn : Str) (cs : Scope) (a : Addr) (ccd : Value) (cl : List (Str × Addr)) (outer : List Env) (A₀ : Around) (base h₀ : Heap) (L : Addr) (m : Str → Option Value) (s : Shared) (Q E : Value → Shared → Prop),
    Below A₀ base outer h₀ → Fr h₀ L s.heap m → (Mine.hd.heap_39 w.params).In h₀ → News h₀ L s.heap N → Top Mine.hd.view_39 loose mean mg mb h₀ → cs.kind = .function → dp + k < recursionLimit → un + 8 * k < cLine →
    (∀ g e t vs' N' h' tk', Fr h₀ L g m → (∀ p ∈ N, p ∈ N') → RaisedS base g (envX cn cs L a ccd cl :: outer) e (.ref 59) t vs' N' h' → g.UpToSlots h' → E (.ref e) { s with heap := h', toks := tk' }) →
    wpAny (model PySem.Challenge.rw_pb0480_01.row.prog w) (ktrTop dp un gd cn cs L a ccd cl outer) (call (.ref f) vs) Q E s
local macro_rules | `(tactic| walk_at "call ref") => `(tactic| (k_here; (with_reducible show wpAny _ _ (call (Value.ref 59) [Value.str _ _]) _ _ _); k_dflt (refine' Tell.use (exc_new _ _ _ _) ?k1 ?k2 ?k3 ?k4 ?k5 ?kK ?kd ?ku ?_; (case k1 => k_asm); (case k2 => k_asm); (case k3 => k_asm); (case k4 => k_asm); (case k5 => k_asm); (case kK => first | exact rfl | assumption); (case kd => ktr_room); (case ku => ktr_units); intro r9 N9 h9 tk9 F9 M9 ho9; obtain ⟨e9, t9, dx9, er9, eN9, hne9, hte9⟩ := ho9; subst er9; subst eN9; (try dsimp only); (try k_fold))))
def Rose (E : Value → Shared → Prop) (v : Value) (s₁ : Shared) : Prop := ∃ e t dx, v = .ref e ∧ s₁.heap.get? 59 = some co59 ∧ s₁.heap.get? e = some (excO 59 t dx) ∧ E (.ref e) s₁
theorem raise59 {M : Model} {A : Around} {E : Value → Shared → Prop} {env : Env} {s : Shared} {x : PySem.Expr} {pos : Pos} {Q : Flow → Shared → Prop} (hh : A.handled = none)
    (h : wpAny M A (eval x env) (Rose E) E s) :
    wpAny M A (exec (.Raise (some x) none pos) env) Q E s := raise_eval (bm := bm59) (by decide +kernel) hh h
local macro_rules | `(tactic| walk_at "exec Raise some none") => `(tactic| (k_here; (with_reducible show wpAny _ _ (exec (Stmt.Raise (some (Expr.Call _ _ _ _)) none _) _) _ _ _); k_dflt (refine' raise59 ?rh ?_; (case rh => rfl))))
set_option maxHeartbeats 16000000 in
theorem put_bad (w : World) {sh tb tr rx hd fl : Addr} {n g q : Int} {tq : Tok} {ot oh : Obj} {kvs : List (Int × Value)} {hkvs : List (Str × Value)} {ev : Value} {M : Led}
    (hS : ShelfAt M sh tb tr) (hr : OvAt w M (.ref rx) (.ref n g)) (hoff : ∀ p ∈ M, p.1 ≠ tb) (hD : ot.IsDictOf (IK w) kvs) (lo : (tb == sysModules) = false) (hz : kvs.length < 20)
    (hev : valueAt kvs n = some ev) (hE : EntAt M ev g (.ref hd)) (hP : PlainV w M (.ref hd)) (hmh : (hd, oh) ∈ M) (hDh : oh.IsDictOf (SK w) hkvs) (loh : (hd == sysModules) = false) (hzh : hkvs.length < 50)
    (hel : Fetches w ((tb, ot) :: M) tb ((valueAt hkvs (Str.ofString "Annots")).getD .none) (.int q tq)) :
    TellX w 472 [.ref sh, .ref rx, .ref fl] 40 ((tb, ot) :: M) := by
  unfold TellX
  k_fill
  intro loose mean mg mb dp un gd cn cs a0 ccd cl outer A₀ base h₀ L m s Q E B F X Nw T hcs hd' hu hret
  have sM : ∀ p ∈ M, p ∈ (tb, ot) :: M := fun p hp => .tail _ hp
  have hF1 : Fetches w ((tb, ot) :: M) tb (.ref rx) (.ref hd) := ⟨hP.mono sM, .inr ⟨n, g, ot, kvs, ev, hr.mono sM, .head _, hD, lo, hev, hE.mono sM⟩⟩
  have hO : OvAt w M (.int q tq) (.int q) := .int q tq
  obtain ⟨da, g1, g2, u1, u2, hs1, hs2⟩ := id hS
  refine wpAny_call ?_
  k_dflt cell_enter
  walk
  rename_i F9 e9 t9 dx9 hne9 hte9 N9
  rename (Mine.hd.heap_39 w.params).In _ => X9
  rename Below (ktrTop _ _ _ _ _ _ _ _ _ _) _ _ _ => B9
  rename Fr h₀ L _ m => F0
  refine ⟨_, _, _, rfl, cls59 (X9.keeps F9.keep), (N9 _ (.head _)).1, ?_⟩
  k_dflt (refine leave_raiseX B9 rfl rfl F9 N9 hne9 hte9 fun h' R U => ?_)
  exact hret _ _ _ _ _ _ _ F0 (fun p hp => by k_mem) R U
end
section
local macro_rules | `(tactic| walk) => `(tactic| repeat' (first | ((fail_if_success (first | (with_reducible show wpAny _ _ (binaryOp _ (Value.ref _) (Value.ref _)) _ _ _) | (with_reducible show wpAny _ _ (subscriptTail _ _ (Value.ref _) (Value.str _ _)) _ _ _) | (with_reducible show wpAny _ _ (call (Value.ref 312) _) _ _ _) | (with_reducible show EltEnd _ _ _ _ _ _ _ _ _ _) | (with_reducible show LCt.CompSrcT _ _ _ _ _ _ _ _ _ _ _ _ _ _ _) | (with_reducible show LCg.CompSrc _ _ _ _ _ _ _ _ _ _ _ _ _ _) | (with_reducible show LCg.CompEnd _ _ _ _ _ _ _ _ _ _ _ _ _ _) | (with_reducible show LCg.FinE _ _ _ _ _ _ _) | (with_reducible show LCg.FinA _ _ _ _ _ _ _ _) | (with_reducible show TurnEnd _ _ _ _ _ _ _ _ _) | (with_reducible show wpAny _ _ (pyIter _) _ _ _) | (with_reducible show wpAny _ _ (exec (Stmt.For _ _ _ _ _) _) _ _ _) | (with_reducible show wpAny _ _ (eval (Expr.ListComp _ _ _ _) _) _ _ _) | (with_reducible show wpAny _ _ (exec (Stmt.Assign _ (Expr.ListComp _ _ _ _) _) _) _ _ _))); (first | (k_unfold; (try dsimp only)) | (k_end; wrow_close) | walk1 | (dsimp only; walk1) | (leave1; walk_say "STEP leave1"; try dsimp only))) | fail "no step"))
def FourT (N : Led) (v : Value) (f : Four) : Prop := ∃ a c t1 t2 t3 t4, v = .ref a ∧ (a, tupO [.int f.1 t1, .int f.2.1 t2, .int f.2.2.1 t3, .int f.2.2.2 t4] c) ∈ N
theorem FourT.mono {N N' : Led} {v : Value} {f : Four} (s : ∀ p ∈ N, p ∈ N') : FourT N v f → FourT N' v f
  | ⟨a, c, t1, t2, t3, t4, e, h⟩ => ⟨a, c, t1, t2, t3, t4, e, s _ h⟩
theorem min_fold {M n0 : Int} {ns : List Int} (h1 : M ∈ n0 :: ns) (h2 : ∀ a ∈ n0 :: ns, M ≤ a) : M = ns.foldl min n0 := by
  have go : ∀ (ns : List Int) (n0 : Int), (∀ a ∈ n0 :: ns, ns.foldl min n0 ≤ a) ∧ ns.foldl min n0 ∈ n0 :: ns := by
    intro ns
    induction ns with
    | nil => intro n0; exact ⟨fun a ha => by simp at ha; simp [ha], by simp⟩
    | cons b r ih =>
      intro n0
      obtain ⟨i1, i2⟩ := ih (min n0 b)
      have hh := i1 (min n0 b) (.head _)
      refine ⟨fun a ha => ?_, ?_⟩
      · show (b :: r).foldl min n0 ≤ a
        rw [List.foldl_cons]
        rcases List.mem_cons.mp ha with rfl | ha
        · omega
        rcases List.mem_cons.mp ha with rfl | ha
        · omega
        · exact i1 a (.tail _ ha)
      · rw [List.foldl_cons]
        rcases List.mem_cons.mp i2 with e | e
        · rw [e]
          rcases Int.le_total n0 b with h | h
          · rw [Int.min_eq_left h]; exact .head _
          · rw [Int.min_eq_right h]; exact .tail _ (.head _)
        · exact .tail _ (.tail _ e)
  obtain ⟨g1, g2⟩ := go ns n0
  exact Int.le_antisymm (h2 _ g2) (g1 _ h1)
theorem max_fold {M n0 : Int} {ns : List Int} (h1 : M ∈ n0 :: ns) (h2 : ∀ a ∈ n0 :: ns, a ≤ M) : M = ns.foldl max n0 := by
  have go : ∀ (ns : List Int) (n0 : Int), (∀ a ∈ n0 :: ns, a ≤ ns.foldl max n0) ∧ ns.foldl max n0 ∈ n0 :: ns := by
    intro ns
    induction ns with
    | nil => intro n0; exact ⟨fun a ha => by simp at ha; simp [ha], by simp⟩
    | cons b r ih =>
      intro n0
      obtain ⟨i1, i2⟩ := ih (max n0 b)
      have hh := i1 (max n0 b) (.head _)
      refine ⟨fun a ha => ?_, ?_⟩
      · show a ≤ (b :: r).foldl max n0
        rw [List.foldl_cons]
        rcases List.mem_cons.mp ha with rfl | ha
        · omega
        rcases List.mem_cons.mp ha with rfl | ha
        · omega
        · exact i1 a (.tail _ ha)
      · rw [List.foldl_cons]
        rcases List.mem_cons.mp i2 with e | e
        · rw [e]
          rcases Int.le_total n0 b with h | h
          · rw [Int.max_eq_right h]; exact .tail _ (.head _)
          · rw [Int.max_eq_left h]; exact .head _
        · exact .tail _ (.tail _ e)
  obtain ⟨g1, g2⟩ := go ns n0
  exact Int.le_antisymm (g1 _ h1) (h2 _ g2)
section
variable {prog : Program} {w : World} {A : Around} {E : Value → Shared → Prop} {s : Shared} {h₀ : Heap} {env : Env} {target : PySem.Expr} {body : List Stmt} {Q : Flow → Shared → Prop}
theorem for_listM {ax : Addr} {c : Nat} {vs : List Value} {x0 : Str} {v0 : Value} {m0 : Str → Option Value} {news : Led} (J : (Str → Option Value) → List Value → (Str → Option Value) → Led → Prop)
    (hh : A.handled = none) (F : Fr h₀ env.locals s.heap (fun y => if y = x0 then some v0 else m0 y)) (N : News h₀ env.locals s.heap news) (hm : (ax, listOf vs.toArray c) ∈ news) (h0 : J m0 [] (fun y => if y = x0 then some v0 else m0 y) news)
    (hk : ∀ pre m n, J m0 pre m n → (ax, listOf vs.toArray c) ∈ n)
    (turn : ∀ I pre v post m n it h tk, (∀ p ∈ news, @LT.lt Nat _ p.1 I) → vs = pre ++ v :: post → J m0 pre m n → it.cls = .type "list_iterator" → Fr h₀ env.locals h m → News h₀ env.locals h ((I, it) :: n) → (∀ p ∈ n, p.1 ≠ I) →
      wpAny (model prog w) A (assign target env v) (fun _ s₂ => wpAny (model prog w) A (execs body env) (TurnEnd h₀ env.locals { s with heap := h, toks := tk } I it (J m0 (pre ++ [v])) Q) E s₂) E { s with heap := h, toks := tk })
    (done : ∀ m n h tk, J m0 vs m n → Fr h₀ env.locals h m → News h₀ env.locals h n → Q .next { s with heap := h, toks := tk }) :
    wpAny (model prog w) A (pyIter (.ref ax)) (fun it s₂ => TurnsAt prog w A h₀ env target body Q E it s₂) E s := for_list (J m0) hh F N hm h0 hk turn done
end
theorem due_map1 {e h r l f : Str} {a b x1 x2 x3 x4 : Option Value} {m0 : Str → Option Value} : (fun y => if y = e then a else if y = h then x4 else if y = r then x3 else if y = l then x2 else if y = f then x1 else if y = e then b else m0 y) = fun y => if y = e then a else if y = h then x4 else if y = r then x3 else if y = l then x2 else if y = f then x1 else m0 y := by
  funext y
  by_cases h1 : y = e <;> simp [h1]
theorem due_map2 {e h r l f : Str} {a b x1 x2 x3 x4 z1 z2 z3 z4 : Option Value} {m0 : Str → Option Value} : (fun y => if y = e then a else if y = h then x4 else if y = r then x3 else if y = l then x2 else if y = f then x1 else if y = e then b else if y = h then z4 else if y = r then z3 else if y = l then z2 else if y = f then z1 else m0 y) = fun y => if y = e then a else if y = h then x4 else if y = r then x3 else if y = l then x2 else if y = f then x1 else m0 y := by
  funext y
  by_cases h1 : y = e
  · simp [h1]
  by_cases h2 : y = h
  · simp [h2]
  by_cases h3 : y = r
  · simp [h3]
  by_cases h4 : y = l
  · simp [h4]
  by_cases h5 : y = f <;> simp [h1, h2, h3, h4, h5]
def DueJ (N : Led) (m0 : Str → Option Value) (fs : List Four) (pre : List Value) (m : Str → Option Value) (nn : Led) : Prop :=
  ∃ Ea es ca tl, nn = tl ++ N ∧ Above tl N ∧ (Ea, listOf (List.toArray es) ca) ∈ tl ++ N ∧ IntsAre es (eights (fs.take pre.length)) ∧
    ((pre = [] ∧ m = fun y => if y = Str.ofString "eights" then some (.ref Ea) else m0 y) ∨
     ∃ x1 x2 x3 x4, m = fun y => if y = Str.ofString "eights" then some (.ref Ea) else if y = Str.ofString "high" then some x4 else if y = Str.ofString "right" then some x3 else if y = Str.ofString "low" then some x2 else if y = Str.ofString "left" then some x1 else m0 y)
theorem ints_app : ∀ {vs ws : List Value} {ns ms : List Int}, IntsAre vs ns → IntsAre ws ms → IntsAre (vs ++ ws) (ns ++ ms)
  | _, _, _, _, .nil, k => k
  | _, _, _, _, .cons n t r, k => .cons n t (ints_app r k)
theorem eights_len : ∀ fs : List Four, (eights fs).length = 8 * fs.length
  | [] => rfl
  | f :: r => by
    show (eightF f ++ eights r).length = _
    rw [List.length_append, eights_len r, List.length_cons]
    show 8 + _ = _
    omega
def IntR (_ : Led) (v : Value) (n : Int) : Prop := ∃ t, v = .int n t
theorem intR_are {N : Led} : ∀ {vs : List Value} {ns : List Int}, AllR IntR N vs ns → IntsAre vs ns
  | _, _, .nil => .nil
  | _, _, .cons ⟨t, e⟩ r => by subst e; exact .cons _ t (intR_are r)
local macro_rules | `(tactic| walk_at "call builtin:min") => `(tactic| (k_here; (with_reducible show wpAny _ _ (call (Value.builtin _) [Value.ref _]) _ _ _); (with_unfolding_all refine' kso_min ?k1 ?k2 ?k3 ?k4 ?k5 ?k6 ?_; (case k1 => k_asm); (case k2 => k_asm); (case k3 => exact News.isList (by k_asm) (by k_mem)); (case k4 => assumption); (case k5 => assumption); (case k6 => with_unfolding_all rfl); k_whole); intro h' M' t' k' F' N' a' b'; (try k_sweep)))
local macro_rules | `(tactic| walk_at "call builtin:max") => `(tactic| (k_here; (with_reducible show wpAny _ _ (call (Value.builtin _) [Value.ref _]) _ _ _); (with_unfolding_all refine' kso_max ?k1 ?k2 ?k3 ?k4 ?k5 ?k6 ?_; (case k1 => k_asm); (case k2 => k_asm); (case k3 => exact News.isList (by k_asm) (by k_mem)); (case k4 => assumption); (case k5 => assumption); (case k6 => with_unfolding_all rfl); k_whole); intro h' M' t' k' F' N' a' b'; (try k_sweep)))
/-- a Decimal made of new objects -/
def FreshDec (N0 n : Led) (v : Value) (d : Int) : Prop := ∃ tl, DecAt tl v d ∧ (∀ p ∈ tl, p ∈ n) ∧ Above tl N0
theorem freshDec_mono {dD : Addr} {oD : Obj} {prog : Program} {w : World} (_ : (dD == sysModules) = false) (_ : oD.IsDictOf (PySem.strKind prog w) []) (N0 : Led) : ∀ (N N' : Led) (v : Value) (d : Int), (∀ p ∈ N, p ∈ N') → FreshDec ((dD, oD) :: N0) N v d → FreshDec ((dD, oD) :: N0) N' v d
  | _, _, _, _, s, ⟨tl, h, k, a⟩ => ⟨tl, h, fun p hp => s p (k p hp), a⟩
theorem decFresh {N0 n M : Led} (k : ∀ p ∈ n, (∀ q ∈ N0, p.1 ≠ q.1) → p ∈ M) : ∀ {vs : List Value} {ns : List Int}, AllR (FreshDec N0) n vs ns → DecAll M vs ns
  | _, _, .nil => .nil
  | _, _, .cons ⟨_, h, i, a⟩ r => .cons (h.mono fun p hp => k p (i p hp) fun q hq => a q hq p hp) (decFresh k r)
theorem perm_due {α : Type} (T S C F P R Q : α) : List.Perm [T, S, C, F, P, R, Q] [C, F, P, Q, R, S, T] := by
  have h1 : List.Perm [T, S, C, F, P, R, Q] [C, F, P, R, Q, T, S] := List.perm_append_comm (l₁ := [T, S]) (l₂ := [C, F, P, R, Q])
  exact h1.trans (List.Perm.append_left [C, F, P] ((List.Perm.swap Q R [T, S]).trans (List.Perm.append_left [Q, R] (List.Perm.swap S T []))))
theorem wides_real : ∀ ns : List Int, OV.wides (ns.map .real)
  | [] => by rw [List.map_nil, OV.wides]; trivial
  | n :: r => by rw [List.map_cons, OV.wides]; exact ⟨by simp [OV.wide], wides_real r⟩
theorem hts_real : ∀ ns : List Int, OV.hts (ns.map .real) = 0
  | [] => by rw [List.map_nil, OV.hts]
  | n :: r => by rw [List.map_cons, OV.hts, hts_real r]; simp [OV.ht]
theorem fine_hiO {f0 : Four} {fs : List Four} {n g : Int} (hz : fs.length < 100) : Fine (hiO f0 fs n g) := by
  constructor
  · unfold hiO
    simp only [OV.wide, OV.wides, List.length_cons, List.length_nil, List.length_map, eights_len]
    exact ⟨⟨by omega, trivial, trivial, trivial, trivial⟩, trivial, trivial, ⟨by omega, wides_real _⟩, ⟨by omega, trivial, trivial, trivial, trivial, trivial⟩, trivial, trivial, trivial⟩
  · unfold hiO
    simp only [OV.ht, OV.hts, hts_real]
    decide
set_option maxHeartbeats 8000000 in
theorem due_tell (w : World) {fl : Addr} {fvs : List Value} {c : Nat} {f0 : Four} {fs : List Four} {rv : Value} {n g : Int} {N : Led} (hfl : (fl, listOf fvs.toArray c) ∈ N) (hF : AllR FourT N fvs (f0 :: fs)) (hr : OvAt w N rv (.ref n g)) (hz : fs.length < 20) :
    Tell w 519 [.ref fl, rv] 40 N (fun r N' => ∃ tl, DatIn tl r (tOf (hiO f0 fs n g)) ∧ N' = tl ++ N ∧ Above tl N) := by
  unfold Tell
  k_fill
  intro loose mean mg mb dp un gd cn cs a0 ccd cl outer A₀ base h₀ L m s Q E B F X Nw T hcs hd hu hret
  have hl := hF.len
  rw [List.length_cons] at hl
  refine wpAny_call ?_
  k_dflt ktr_enter
  walk
  refine For_turns (by k_asm) ?_
  walk
  rename Fr _ _ _ _ => F2
  rename News _ _ _ _ => N2
  rename (∀ p ∈ N, p.1 < _) => lE
  refine for_listM (fun m0 pre mm nn => DueJ N m0 (f0 :: fs) pre mm nn) rfl F2 N2 (by k_mem) ⟨_, [], 0, [_], rfl, above_lt lE, inL (.head _), .nil, .inl ⟨rfl, rfl⟩⟩ ?_ ?_ ?_
  · rintro pre mm nn ⟨Ea, es, ca, tl, rfl, _⟩
    exact inR hfl
  · rintro I pre v post mm nn it h tk hI e ⟨Ea, es, ca, tl, rfl, hA, hE, hes, hm⟩ hit F3 N3 hoff
    obtain ⟨f, hf, hk⟩ := (show AllR FourT N (pre ++ v :: post) (f0 :: fs) from e ▸ hF).here
    obtain ⟨ta, tc, t1, t2, t3, t4, rfl, hta⟩ := hf
    have hel := hes.length
    rw [eights_len] at hel
    have hlp : pre.length < fs.length + 1 := by have := (List.getElem?_eq_some_iff.mp hk).1; simpa using this
    have hlt : ((f0 :: fs).take pre.length).length ≤ pre.length := by rw [List.length_take]; omega
    rcases hm with ⟨_, rfl⟩ | ⟨x1, x2, x3, x4, rfl⟩
    · walk
      k_dflt (refine add_mem (by k_asm) (by k_asm) (.tail _ (.tail _ hE)) (.head _) (by simp only [List.length_cons, List.length_nil]; omega) ?_)
      intro D7 h7 F7 N7 l7
      walk
      rename (I < _ ∧ AllLt _ _) => lI
      rename Fr _ _ _ _ => F9
      rename News _ _ _ _ => N9
      refine turn_next (tl9 := [_, _]) F9 N9 (above_two (N := (I, it) :: (tl ++ N)) lI (l7 _ (.head _))) hoff ⟨D7, _, 0, [_, _] ++ tl, by rw [List.append_assoc], above_trans hA (above_sub (above_two (N := (I, it) :: (tl ++ N)) lI (l7 _ (.head _))) fun p hp => .tail _ hp), .head _, ?_, .inr ⟨_, _, _, _, due_map1⟩⟩
      rw [List.length_append, List.length_singleton, eights_snoc hk]
      exact ints_app hes (.cons _ _ (.cons _ _ (.cons _ _ (.cons _ _ (.cons _ _ (.cons _ _ (.cons _ _ (.cons _ _ .nil))))))))
    · walk
      k_dflt (refine add_mem (by k_asm) (by k_asm) (.tail _ (.tail _ hE)) (.head _) (by simp only [List.length_cons, List.length_nil]; omega) ?_)
      intro D7 h7 F7 N7 l7
      walk
      rename (I < _ ∧ AllLt _ _) => lI
      rename Fr _ _ _ _ => F9
      rename News _ _ _ _ => N9
      refine turn_next (tl9 := [_, _]) F9 N9 (above_two (N := (I, it) :: (tl ++ N)) lI (l7 _ (.head _))) hoff ⟨D7, _, 0, [_, _] ++ tl, by rw [List.append_assoc], above_trans hA (above_sub (above_two (N := (I, it) :: (tl ++ N)) lI (l7 _ (.head _))) fun p hp => .tail _ hp), .head _, ?_, .inr ⟨_, _, _, _, due_map2⟩⟩
      rw [List.length_append, List.length_singleton, eights_snoc hk]
      exact ints_app hes (.cons _ _ (.cons _ _ (.cons _ _ (.cons _ _ (.cons _ _ (.cons _ _ (.cons _ _ (.cons _ _ .nil))))))))
  · rintro mm nn h tk ⟨Ea, es, ca, tl, rfl, hA, hE, hes, hm⟩ F3 N3
    rw [List.take_of_length_le (by rw [List.length_cons]; omega)] at hes
    have hel := hes.length
    rw [eights_len, List.length_cons] at hel
    rcases hm with ⟨he, rfl⟩ | ⟨x1, x2, x3, x4, rfl⟩
    · subst he
      cases hF
    walk
    k_dflt (refine LCg.ListComp_U (F₀ := by k_asm) (by rfl) (by decide) (by rfl) (by decide) (by rfl) ?_)
    walk
    refine comp_map IntR (fun _ _ _ _ _ h => h) ((f0 :: fs).map (·.1)) rfl (by k_asm) (by k_asm) (by k_mem) (by omega) (by rw [List.length_map]; exact hF.len) ?_ ?_
    · intro gg k v d tl8 ys8 I oI C oC D m₂ h tk E' hv hd hC hx F2 N2 ne
      rw [List.getElem?_map] at hd
      obtain ⟨f, hf, rfl⟩ := Option.map_eq_some_iff.mp hd
      obtain ⟨ta, tc, t1, t2, t3, t4, rfl, hta⟩ := hF.get hv hf
      walk
      exact EltEnd.of0 (by k_asm) (by k_asm) ⟨_, rfl⟩
    intro gg D3 h3 tk3 tl3 ys3 F3 N3 hA3 hD3 hR3
    have hI3 := intR_are hR3
    have hl3 : ys3.length = fs.length + 1 := by rw [hR3.len, List.length_map, List.length_cons]
    have hm3 : 0 < ((f0 :: fs).map (·.1)).length := by rw [List.length_map]; exact Nat.succ_pos _
    walk
    rename (_ ∈ List.map _ (f0 :: fs)) => am3
    rename (∀ a : Int, a ∈ List.map _ (f0 :: fs) → _) => bm3
    k_dflt (refine LCg.ListComp_U (F₀ := by k_asm) (by rfl) (by decide) (by rfl) (by decide) (by rfl) ?_)
    walk
    refine comp_map IntR (fun _ _ _ _ _ h => h) ((f0 :: fs).map (·.2.1)) rfl (by k_asm) (by k_asm) (by k_mem) (by omega) (by rw [List.length_map]; exact hF.len) ?_ ?_
    · intro gg k v d tl8 ys8 I oI C oC D m₂ h tk E' hv hd hC hx F2 N2 ne
      rw [List.getElem?_map] at hd
      obtain ⟨f, hf, rfl⟩ := Option.map_eq_some_iff.mp hd
      obtain ⟨ta, tc, t1, t2, t3, t4, rfl, hta⟩ := hF.get hv hf
      walk
      exact EltEnd.of0 (by k_asm) (by k_asm) ⟨_, rfl⟩
    intro gg D4 h4 tk4 tl4 ys4 F4 N4 hA4 hD4 hR4
    have hI4 := intR_are hR4
    have hl4 : ys4.length = fs.length + 1 := by rw [hR4.len, List.length_map, List.length_cons]
    have hm4 : 0 < ((f0 :: fs).map (·.2.1)).length := by rw [List.length_map]; exact Nat.succ_pos _
    walk
    rename (_ ∈ List.map _ (f0 :: fs)) => am4
    rename (∀ a : Int, a ∈ List.map _ (f0 :: fs) → _) => bm4
    k_dflt (refine LCg.ListComp_U (F₀ := by k_asm) (by rfl) (by decide) (by rfl) (by decide) (by rfl) ?_)
    walk
    refine comp_map IntR (fun _ _ _ _ _ h => h) ((f0 :: fs).map (·.2.2.1)) rfl (by k_asm) (by k_asm) (by k_mem) (by omega) (by rw [List.length_map]; exact hF.len) ?_ ?_
    · intro gg k v d tl8 ys8 I oI C oC D m₂ h tk E' hv hd hC hx F2 N2 ne
      rw [List.getElem?_map] at hd
      obtain ⟨f, hf, rfl⟩ := Option.map_eq_some_iff.mp hd
      obtain ⟨ta, tc, t1, t2, t3, t4, rfl, hta⟩ := hF.get hv hf
      walk
      exact EltEnd.of0 (by k_asm) (by k_asm) ⟨_, rfl⟩
    intro gg D5 h5 tk5 tl5 ys5 F5 N5 hA5 hD5 hR5
    have hI5 := intR_are hR5
    have hl5 : ys5.length = fs.length + 1 := by rw [hR5.len, List.length_map, List.length_cons]
    have hm5 : 0 < ((f0 :: fs).map (·.2.2.1)).length := by rw [List.length_map]; exact Nat.succ_pos _
    walk
    rename (_ ∈ List.map _ (f0 :: fs)) => am5
    rename (∀ a : Int, a ∈ List.map _ (f0 :: fs) → _) => bm5
    k_dflt (refine LCg.ListComp_U (F₀ := by k_asm) (by rfl) (by decide) (by rfl) (by decide) (by rfl) ?_)
    walk
    refine comp_map IntR (fun _ _ _ _ _ h => h) ((f0 :: fs).map (·.2.2.2)) rfl (by k_asm) (by k_asm) (by k_mem) (by omega) (by rw [List.length_map]; exact hF.len) ?_ ?_
    · intro gg k v d tl8 ys8 I oI C oC D m₂ h tk E' hv hd hC hx F2 N2 ne
      rw [List.getElem?_map] at hd
      obtain ⟨f, hf, rfl⟩ := Option.map_eq_some_iff.mp hd
      obtain ⟨ta, tc, t1, t2, t3, t4, rfl, hta⟩ := hF.get hv hf
      walk
      exact EltEnd.of0 (by k_asm) (by k_asm) ⟨_, rfl⟩
    intro gg D6 h6 tk6 tl6 ys6 F6 N6 hA6 hD6 hR6
    have hI6 := intR_are hR6
    have hl6 : ys6.length = fs.length + 1 := by rw [hR6.len, List.length_map, List.length_cons]
    have hm6 : 0 < ((f0 :: fs).map (·.2.2.2)).length := by rw [List.length_map]; exact Nat.succ_pos _
    walk
    rename (_ ∈ List.map _ (f0 :: fs)) => am6
    rename (∀ a : Int, a ∈ List.map _ (f0 :: fs) → _) => bm6
    have eA3 := min_fold am3 bm3
    have eA4 := min_fold am4 bm4
    have eA5 := max_fold am5 bm5
    have eA6 := max_fold am6 bm6
    subst eA3 eA4 eA5 eA6
    rename OvAt w _ _ (.name (Str.ofString "Annot")) => hA1
    rename OvAt w _ _ (.name (Str.ofString "Highlight")) => hA2
    k_dflt (refine LCg.ListComp_U (F₀ := by k_asm) (by rfl) (by decide) (by rfl) (by decide) (by rfl) ?_)
    walk
    rename ((_ == sysModules) = false) => los
    rename Obj.IsDictOf _ _ [] => hd0
    have hFD := freshDec_mono los hd0 N
    refine comp_map _ hFD [(fs.map (·.1)).foldl min f0.1, (fs.map (·.2.1)).foldl min f0.2.1, (fs.map (·.2.2.1)).foldl max f0.2.2.1, (fs.map (·.2.2.2)).foldl max f0.2.2.2] rfl (by k_asm) (by k_asm) (by k_mem) (by simp) rfl ?_ ?_
    · intro gg k v d tl8 ys8 I oI C oC D m₂ h tk E' hv hd hC hx F2 N2 ne
      obtain ⟨t9, rfl⟩ := intsAre_get (.cons _ _ (.cons _ _ (.cons _ _ (.cons _ _ .nil)))) hv hd
      walk
      (try k_unfold)
      rename Above _ (Three _ _ _ _ _ _ _) => hA9
      rename DecAt _ _ d => hD9
      exact EltEnd.of (by k_asm) (by k_asm) hA9 ⟨_, hD9, fun p hp => inL hp, above_sub hA9 fun p hp => by rcases List.mem_cons.mp hp with rfl | hp <;> k_mem⟩
    intro gg D7 h7 tk7 tl7 ys7 F7 N7 hA7 hD7 hR7
    walk
    have hez : es.length < 1000000 := by omega
    have hee : es.length = (eights (f0 :: fs)).length := by rw [eights_len, List.length_cons]; omega
    k_dflt (refine LCg.ListComp_U (F₀ := by k_asm) (by rfl) (by decide) (by rfl) (by decide) (by rfl) ?_)
    walk
    refine comp_map _ hFD (eights (f0 :: fs)) rfl (by k_asm) (by k_asm) (by k_mem) hez hee ?_ ?_
    · intro gg k v d tl8 ys8 I oI C oC D m₂ h tk E' hv hd hC hx F2 N2 ne
      obtain ⟨t9, rfl⟩ := intsAre_get hes hv hd
      walk
      (try k_unfold)
      rename Above _ (Three _ _ _ _ _ _ _) => hA9
      rename DecAt _ _ d => hD9
      exact EltEnd.of (by k_asm) (by k_asm) hA9 ⟨_, hD9, fun p hp => inL hp, above_sub hA9 fun p hp => by rcases List.mem_cons.mp hp with rfl | hp <;> k_mem⟩
    intro gg D8 h8 tk8 tl8 ys8 F8 N8 hA8 hD8 hR8
    walk
    rename (_ < _ ∧ _ < _ ∧ AllLt _ _) => lD
    rename (∀ p : Addr × Obj, p ∈ _ ++ (_ ++ _) → p.1 < _) => lC
    rename Above _ ((_, _) :: (_, listOf _ _) :: (D6, _) :: _) => hU1
    rename Above _ (_ ++ (_, _) :: (_, listOf _ _) :: (D6, _) :: _) => hU2
    refine made_mem F8 N8 (by k_mem) hd0 (by rfl) (of_decide_eq_true (by rfl)) ?_
    intro h' o' F' N' hD'
    have nN : ∀ p ∈ N, p.1 ≠ _ := fun p hp => Nat.ne_of_lt (ktn_ltOf lD.2.2 p (by k_mem))
    obtain ⟨tl5, hA5', hs5, hN5⟩ := grown2 (N := N) N' (fun p hp => .tail _ (mem_rest (by k_mem) (nN p hp)))
    obtain ⟨es5, c5, rfl⟩ := isDict_lit hD'
    have hO : OvAt w (tl5 ++ N) (.ref _) (hiO f0 fs n g) := .dict (vs := [_, _, _, _, _, _, _]) los (inL (hs5 _ (.head _) fun q hq => Ne.symm (nN q hq))) hD' (perm_due _ _ _ _ _ _ _) (by decide) (by decide) (by decide) rfl
      (.cons (.arr (inL (hs5 _ (.tail _ (mem_rest (by k_mem) (ne_ofFa lC (by k_mem)))) fun q hq => Ne.symm (Nat.ne_of_lt (lC q (by k_mem))))) (.cons (.int 1 _) (.cons (.int 1 _) (.cons (.int 0 _) .nil)))) (.cons (.int 4 _) (.cons (hr.mono fun p hp => inR hp)
      (.cons (.arr (inL (hs5 _ (.tail _ (mem_rest (.head _) (Ne.symm (hD8 (_, _) (by k_mem))))) fun q hq => Ne.symm (hD8 q (by k_mem)))) (ovReal (decFresh (fun p hp hq => inL (hs5 p (.tail _ (mem_rest (.tail _ hp) (hq _ (.head _)))) fun q h9 => hq q (.tail _ h9))) hR8)))
      (.cons (.arr (inL (hs5 _ (.tail _ (mem_rest (by k_mem) (Ne.symm (hD7 (_, _) (by k_mem))))) fun q hq => Ne.symm (hD7 q (by k_mem)))) (ovReal (decFresh (fun p hp hq => inL (hs5 p (.tail _ (mem_rest (by k_mem) (hq _ (.head _)))) fun q h9 => hq q (.tail _ h9))) hR7)))
      (.cons (hA2.mono fun p hp => inL (hs5 p (.tail _ (mem_rest (by k_mem) (hU2 (_, _) (by k_mem) p hp))) fun q hq => hU2 q (by k_mem) p hp)) (.cons (hA1.mono fun p hp => inL (hs5 p (.tail _ (mem_rest (by k_mem) (hU1 _ (.head _) p hp))) fun q hq => hU1 q (by k_mem) p hp)) .nil)))))))
    walk
    k_dflt (refine' Tell.use (told_tell _ hO (fine_hiO (by omega))) ?k1 ?k2 ?k3 hN5 ?k5 ?kK ?kd ?ku ?_; (case k1 => k_asm); (case k2 => k_asm); (case k3 => k_asm); (case k5 => k_asm); (case kK => first | exact rfl | assumption); (case kd => ktr_room); (case ku => ktr_units))
    intro r9 N9 h9 tk9 F9 M9 ho9
    obtain ⟨tl9, hD9, eN9, hA9⟩ := ho9
    subst eN9
    try k_fold
    walk
    rename_i kF kN Tc kX
    rw [← List.append_assoc] at kN
    exact hret _ _ _ _ kF kN ⟨tl9 ++ tl5, DatIn.mono (fun p hp => inL hp) hD9, rfl, above_trans hA5' hA9⟩
end
section
theorem range_mem {prog : Program} {w : World} {A : Around} {E : Value → Shared → Prop} {s : Shared} {h₀ : Heap} {L : Addr} {m : Str → Option Value} {news : Led} {n : Int} {t : Tok} {Q : Value → Shared → Prop} (F : Fr h₀ L s.heap m) (N : News h₀ L s.heap news)
    (h : ∀ r h' tk t₀ v₀, IsRange h' r 0 n 1 t₀ t v₀ → Fr h₀ L h' m → News h₀ L h' news → Q (.ref r) { s with heap := h', toks := tk }) : wpAny (model prog w) A (call (.type "range") [.int n t]) Q E s :=
  call_range_1 (h _ _ _ _ _ (IsRange.new s.heap 0 n 1 s.toks t (s.toks + 1)) (F.keeps fun b o e => Heap.get?_push_of_some _ e) (N.grown fun b o e => Heap.get?_push_of_some _ e))
/-- append to a list of the ledger -/
theorem append_mem {prog : Program} {w : World} {A : Around} {E : Value → Shared → Prop} {s : Shared} {h₀ : Heap} {L a : Addr} {m : Str → Option Value} {news : Led} {vs : List Value} {c : Nat} {v : Value} {Q : Value → Shared → Prop} (F : Fr h₀ L s.heap m) (N : News h₀ L s.heap news) (hm : (a, listOf vs.toArray c) ∈ news) (hz : vs.length < 1000)
    (h : ∀ h', Fr h₀ L h' m → News h₀ L h' ((a, listOf (List.toArray (vs ++ [v])) (c + 1)) :: rest a news) → Q .none { s with heap := h' }) : wpAny (model prog w) A (call (.builtin "list.append") [.ref a, v]) Q E s := by
  have za := N _ hm
  refine append_at (hsz := size_line (by omega)) za.1 fun h₅ hs₅ hD₅ => ?_
  refine h h₅ (F.change hs₅ za.2.1 za.2.2) fun p hp => ?_
  rcases List.mem_cons.mp hp with rfl | hp
  · exact ⟨hD₅.trans (congrArg some (by simp [PySem.W.listOf])), za.2⟩
  · have hp' := (List.mem_filter.mp hp).1
    exact ⟨hs₅.extBut _ _ (rest_ne p hp) (N p hp').1, (N p hp').2⟩
theorem range_fits {b : Int} (h0 : 0 ≤ b) (h1 : b ≤ 100) : Builtin.Range.small 0 b 1 = true ∧ Builtin.Range.rangeSize 0 b 1 = ((b.toNat : Nat) : Int) := by
  have h : ∀ j : Nat, j < 101 → Builtin.Range.small 0 (j : Int) 1 = true ∧ Builtin.Range.rangeSize 0 (j : Int) 1 = (((j : Int).toNat : Nat) : Int) := by decide +kernel
  have := h b.toNat (by omega)
  rwa [Int.toNat_of_nonneg h0] at this
theorem range_of {d : Int} (h0 : 0 ≤ d) (h1 : d < 50) : Builtin.Range.small 0 (1 + d) 1 = true ∧ Builtin.Range.rangeSize 0 (1 + d) 1 = (((1 + d).toNat : Nat) : Int) := range_fits (by omega) (by omega)
theorem range_of0 {d : Int} (h0 : 0 ≤ d) (h1 : d < 50) : Builtin.Range.small 0 d 1 = true ∧ Builtin.Range.rangeSize 0 d 1 = ((d.toNat : Nat) : Int) := range_fits (by omega) (by omega)
def BoxJ (t c S : Addr) (k : Int) (nt : Nat) (I : Led) (m0 : Str → Option Value) (i : Nat) (m : Str → Option Value) (nn : Led) : Prop :=
  ∃ ws fs kk tk tl cS, nn = (S, listOf (List.toArray ws) cS) :: (t, tapeO c kk tk nt) :: (tl ++ I) ∧ ws.length = i ∧ AllR FourT (tl ++ I) ws fs ∧ k ≤ kk ∧ kk ≤ k + 4 * i ∧ (∀ p ∈ tl ++ I, p.1 ≠ t ∧ p.1 ≠ S) ∧
    ((i = 0 ∧ m = m0) ∨ ∃ v, m = fun y => if y = Str.ofString "k" then some v else m0 y)
theorem k_map {e : Str} {a b : Option Value} {m0 : Str → Option Value} : (fun y => if y = e then a else if y = e then b else m0 y) = fun y => if y = e then a else m0 y := by
  funext y
  by_cases h1 : y = e <;> simp [h1]
theorem box_turn {h₀ h' : Heap} {L S t c I' D : Addr} {it oS ot : Obj} {s : Shared} {Q : Flow → Shared → Prop} {m0 m' : Str → Option Value} {ws : List Value} {fs : List Four} {I tl : Led} {k k' : Int} {i cS nt tk' ct : Nat} {tkk : Tok} {a b x y : Int} {t1 t2 t3 t4 : Tok} {v : Value}
    (F : Fr h₀ L h' m') (N : News h₀ L h' ((S, listOf (List.toArray (ws ++ [.ref D])) (cS + 1)) :: rest S ((D, tupO [.int a t1, .int b t2, .int x t3, .int y t4] ct) :: (I', it) :: (S, oS) :: (t, tapeO c k' tkk nt) :: (tl ++ I))))
    (l : (@LT.lt Nat _ I' D) ∧ (@LT.lt Nat _ S D) ∧ (@LT.lt Nat _ t D) ∧ AllLt D (tl ++ I)) (hoff : ∀ p ∈ (S, oS) :: (t, ot) :: (tl ++ I), p.1 ≠ I') (hwl : ws.length = i) (hwf : AllR FourT (tl ++ I) ws fs) (h1 : k ≤ k') (h2 : k' ≤ k + 4 * (i + 1 : Int)) (hoffI : ∀ p ∈ tl ++ I, p.1 ≠ t ∧ p.1 ≠ S) (hSt : @LT.lt Nat _ t S)
    (hm : m' = fun y => if y = Str.ofString "k" then some v else m0 y) : TurnEnd h₀ L s I' it (fun mm nn => BoxJ t c S k nt I m0 (i + 1) mm nn) Q .next { s with heap := h', toks := tk' } := by
  refine turn_next0 (n' := (S, listOf (List.toArray (ws ++ [.ref D])) (cS + 1)) :: (t, tapeO c k' tkk nt) :: (((D, tupO [.int a t1, .int b t2, .int x t3, .int y t4] ct) :: tl) ++ I)) F (newsSub N fun p hp => ?_) (fun p hp => ?_) ?_
  · rcases List.mem_cons.mp hp with rfl | hp
    · exact .tail _ (mem_rest (.tail _ (.head _)) (Ne.symm (hoff _ (.head _))))
    rcases List.mem_cons.mp hp with rfl | hp
    · exact .head _
    rcases List.mem_cons.mp hp with rfl | hp
    · exact .tail _ (mem_rest (.tail _ (.tail _ (.tail _ (.head _)))) (Nat.ne_of_lt hSt))
    rcases List.mem_cons.mp hp with rfl | hp
    · exact .tail _ (mem_rest (.head _) (Ne.symm (Nat.ne_of_lt l.2.1)))
    · exact .tail _ (mem_rest (.tail _ (.tail _ (.tail _ (.tail _ hp)))) (hoffI p hp).2)
  · rcases List.mem_cons.mp hp with rfl | hp
    · exact hoff (S, oS) (.head _)
    rcases List.mem_cons.mp hp with rfl | hp
    · exact hoff (t, ot) (.tail _ (.head _))
    rcases List.mem_cons.mp hp with rfl | hp
    · exact Ne.symm (Nat.ne_of_lt l.1)
    · exact hoff p (.tail _ (.tail _ hp))
  · refine ⟨_, fs ++ [(a, b, x, y)], k', tkk, _, _, rfl, by rw [List.length_append, hwl]; rfl, ?_, h1, by omega, fun p hp => ?_, .inr ⟨v, hm⟩⟩
    · exact AllR.snoc (AllR.monoR (fun _ _ h => FourT.mono (fun p hp => .tail _ hp) h) hwf) ⟨D, ct, t1, t2, t3, t4, rfl, .head _⟩
    · rcases List.mem_cons.mp hp with rfl | hp
      · exact ⟨Ne.symm (Nat.ne_of_lt l.2.2.1), Ne.symm (Nat.ne_of_lt l.2.1)⟩
      · exact hoffI p hp
/-- what the element of a block with several names leaves -/
def UnpEnd {δ : Type} (R : Led → Value → δ → Prop) (h₀ : Heap) (L : Addr) (m : Str → Option Value) (s : Shared) (I : Addr) (oI : Obj) (C D : Addr) (oD : Obj) (n : Led) (d : δ) (y : Value) (s' : Shared) : Prop :=
  ∃ h' tk' oC' mC' tl, s' = (⟨h', s.gens, s.drawn, tk', s.os⟩ : Shared) ∧ Fr h₀ L h' m ∧ LCg.NsObj oC' mC' ∧ News h₀ L h' (tl ++ Three I oI C oC' D oD n) ∧ Above tl (Three I oI C oC' D oD n) ∧ R (tl ++ n) y d
theorem UnpEnd.of {δ : Type} {R : Led → Value → δ → Prop} {h₀ h' : Heap} {L : Addr} {m : Str → Option Value} {s : Shared} {I : Addr} {oI : Obj} {C D : Addr} {oC' oD : Obj} {mC' : Str → Option Value} {n tl : Led} {d : δ} {y : Value} {tk' : Nat} (F : Fr h₀ L h' m) (hC : LCg.NsObj oC' mC') (N : News h₀ L h' (tl ++ Three I oI C oC' D oD n)) (hA : Above tl (Three I oI C oC' D oD n)) (r : R (tl ++ n) y d) :
    UnpEnd R h₀ L m s I oI C D oD n d y { s with heap := h', toks := tk' } := ⟨h', tk', oC', mC', tl, rfl, F, hC, N, hA, r⟩
section
variable {prog : Program} {w : World} {A : Around} {E : Value → Shared → Prop} {s s₂ : Shared} {h₀ : Heap} {L : Addr} {m : Str → Option Value} {env : Env} {elt iter : PySem.Expr} {scope : Scope} {cl : List (Str × Addr)} {pos : Pos}
theorem unpack_map {δ : Type} (R : Led → Value → δ → Prop) (mono : ∀ N N' v d, (∀ p ∈ N, p ∈ N') → R N v d → R N' v d) (ds : List δ) {elts : List PySem.Expr} {x1 : Nat} {tp : Pos} {ax : Addr} {vs : List Value} {c : Nat} {news : Led} {Q : Value → Shared → Prop} (hh : A.handled = none)
    (hcell : ∀ y ∈ scope.names, y.2 ≠ .cell) (hkind : scope.kind = .function)
    (F : Fr h₀ L s.heap m) (N : News h₀ L s.heap news) (hm : (ax, listOf vs.toArray c) ∈ news) (hz : vs.length < 1000) (hv : ∀ v ∈ vs, ∃ T, v = Value.ref T) (hl : vs.length = ds.length)
    (turn : ∀ (k : Nat) v d tl ys I oI C oC D mC h tk (E' : Value → Shared → Prop), vs[k]? = some v → ds[k]? = some d → LCg.NsObj oC mC → Fr h₀ L h m → News h₀ L h (Three I oI C oC D (LCg.lst ys) (tl ++ news)) → ((@Ne Nat I C) ∧ (@Ne Nat I D) ∧ (@Ne Nat C D)) → (∀ p ∈ tl ++ news, p.1 ≠ C) →
      wpAny (model prog w) A (assign (.Tuple elts x1 tp) (compEnvC scope cl C env) v) (fun _ s' => wpAny (model prog w) A (eval elt (compEnvC scope cl C env))
        (UnpEnd R h₀ L m s I oI C D (LCg.lst ys) (tl ++ news) d) E' s') E' (⟨h, s.gens, s.drawn, tk, s.os⟩ : Shared))
    (hQ : ∀ I g, BlockOK prog w A E h₀ L m env elt [⟨.Tuple elts x1 tp, iter, [], 0⟩] scope cl pos I (fun ys n => ∃ tl, n = tl ++ news ∧ Above tl news ∧ AllR R n ys ds) { s with heap := g } → Q (.ref I) { s with heap := g }) :
    wpAny (model prog w) A (pyIter (.ref ax)) Q E s := by
  refine block_unpack (elts := elts) (x1 := x1) (tp := tp) (elt := elt) (iter := iter) (cl := cl) (pos := pos) (env := env) (fun pre ys n => MapJ R news ds pre.length ys n) hh hcell hkind F N hm hz hv ⟨[], rfl, above_nil, by rw [List.length_nil, List.take_zero]; exact .nil⟩ ?_ ?_ (fun I g hB => hQ I g ?_)
  · rintro pre ys n ⟨tl, rfl, _, hR⟩
    exact ⟨inR hm, by rw [hR.len, List.length_take]; omega⟩
  · intro g pre v post ys n I oI C oC D mC h tk E' e hJ hC F2 N2 off ne
    obtain ⟨tl, hn, hA, hR⟩ := id hJ
    have hv' : vs[pre.length]? = some v := by rw [e, List.getElem?_append_right (Nat.le_refl _), Nat.sub_self]; rfl
    have hlt : pre.length < ds.length := by rw [← hl, e, List.length_append, List.length_cons]; omega
    subst hn
    refine wpAny_mono (turn pre.length v ds[pre.length] tl ys I oI C oC D mC h tk E' hv' (List.getElem?_eq_getElem hlt) hC F2 N2 ne fun p hp => (off.mem p hp).2.1) (fun _ s₃ h₃ => wpAny_mono h₃ (fun y s₄ h₄ => ?_) fun _ _ e => e) fun _ _ e => e
    obtain ⟨h', tk', oC', mC', tl9, rfl, F', hC', N', hA', hr⟩ := h₄
    refine ⟨h', tk', oC', mC', tl9 ++ (tl ++ news), rfl, F', hC', newsSub N' fun p hp => ?_, LCg.Off3.of fun p hp => ?_, ?_⟩
    · rcases List.mem_cons.mp hp with rfl | hp
      · exact inR (.head _)
      rcases List.mem_cons.mp hp with rfl | hp
      · exact inR (.tail _ (.head _))
      rcases List.mem_cons.mp hp with rfl | hp
      · exact inR (.tail _ (.tail _ (.head _)))
      rcases List.mem_append.mp hp with hp | hp
      · exact inL hp
      · exact inR (.tail _ (.tail _ (.tail _ hp)))
    · rcases List.mem_append.mp hp with hp | hp
      · exact ⟨hA' _ (.head _) p hp, hA' _ (.tail _ (.head _)) p hp, hA' _ (.tail _ (.tail _ (.head _))) p hp⟩
      · exact off.mem p hp
    · rw [List.length_append, List.length_singleton]
      exact MapJ.step mono hJ (List.getElem?_eq_getElem hlt) (above_sub hA' fun p hp => .tail _ (.tail _ (.tail _ hp))) hr
  · intro RR hRR
    refine hB RR fun D C h tk m' ys n F' N' o1 hn hC₀ hD₀ hCL hDL hCD offC fin => hRR D C h tk m' ys n F' N' o1 hn hC₀ hD₀ hCL hDL hCD offC ?_
    obtain ⟨tl, e, hA, hR⟩ := fin
    rw [hl, List.take_length] at hR
    exact ⟨tl, e, hA, hR⟩
end
def toGl (f : Four) : Gl := ⟨f.1, f.2.1, f.2.2.1, f.2.2.2⟩
def HeldU (Q : Unit → Shared → Prop) (x : Unit) (s : Shared) : Prop := Q x s
theorem HeldU.mk {Q : Unit → Shared → Prop} {x : Unit} {s : Shared} (h : Q x s) : HeldU Q x s := h
theorem holdU {M : Model} {A : Around} {t : Sem Unit} {Q : Unit → Shared → Prop} {E : Value → Shared → Prop} {s : Shared} (h : wpAny M A t (HeldU Q) E s) : wpAny M A t Q E s := h
theorem store_comp {M : Model} {A : Around} {E : Value → Shared → Prop} {s : Shared} {h₀ : Heap} {L : Addr} {m : Str → Option Value} {scope : Scope} {cl : List (Str × Addr)} {env : Env} {I C D : Addr} {oI oC oD : Obj} {n : Led} {mC : Str → Option Value} {y : Str} {v : Value} {Q : Unit → Shared → Prop}
    (F : Fr h₀ L s.heap m) (N : News h₀ L s.heap (Three I oI C oC D oD n)) (hC : LCg.NsObj oC mC) (ne : (@Ne Nat I C) ∧ (@Ne Nat I D) ∧ (@Ne Nat C D)) (off : ∀ p ∈ n, p.1 ≠ C)
    (hl : (compEnvC scope cl C env).kindOf y = some .local) (hk : scope.kind = .function)
    (h : ∀ h' oC' tk, Fr h₀ L h' m → News h₀ L h' (Three I oI C oC' D oD n) → LCg.NsObj oC' (fun z => if z = y then some v else mC z) → Q () { s with heap := h', toks := tk }) : wpAny M A (storeName (compEnvC scope cl C env) y v) Q E s := by
  have zC := N (C, oC) (.tail _ (.head _))
  refine wpAny_storeName_local hl (hC.ns zC.1) (fun h₃ hn₃ hs₃ => ?_) (by
    have : (compEnvC scope cl C env).scope.kind = .function := hk
    rw [this]; rfl)
  obtain ⟨oC3, heC3, hoC3⟩ := LCg.ns_obj hn₃
  refine h h₃ oC3 _ (F.change hs₃ zC.2.1 zC.2.2) (fun p hp => ?_) hoC3
  rcases List.mem_cons.mp hp with rfl | hp
  · have z := N _ (.head _)
    exact ⟨hs₃.extBut _ _ ne.1 z.1, z.2⟩
  rcases List.mem_cons.mp hp with rfl | hp
  · exact ⟨heC3, zC.2⟩
  rcases List.mem_cons.mp hp with rfl | hp
  · have z := N _ (.tail _ (.tail _ (.head _)))
    exact ⟨hs₃.extBut _ _ (Ne.symm ne.2.2) z.1, z.2⟩
  · have z := N p (.tail _ (.tail _ (.tail _ hp)))
    exact ⟨hs₃.extBut _ _ (off p hp) z.1, z.2⟩
theorem four_names {oC : Obj} {a b c d : Str} {v1 v2 v3 v4 : Value} {mC : Str → Option Value} (hC : LCg.NsObj oC (fun z => if z = d then some v4 else if z = c then some v3 else if z = b then some v2 else if z = a then some v1 else mC z))
    (h : a ≠ b ∧ a ≠ c ∧ a ≠ d ∧ b ≠ c ∧ b ≠ d ∧ c ≠ d) : ∃ m', LCg.NsObj oC m' ∧ m' a = some v1 ∧ m' b = some v2 ∧ m' c = some v3 ∧ m' d = some v4 := by
  obtain ⟨h1, h2, h3, h4, h5, h6⟩ := h
  exact ⟨_, hC, by simp [h1, h2, h3], by simp [h4, h5], by simp [h6], by simp⟩
theorem dec_ref {N : Led} {v : Value} {n : Int} (h : DecAt N v n) : ∃ x, v = .ref x ∧ DecAt N (.ref x) n := by
  obtain ⟨x, dx, t1, t2, u1, u2, g1, g2, rfl, a, b⟩ := h
  exact ⟨x, rfl, x, dx, t1, t2, u1, u2, g1, g2, rfl, a, b⟩
def GlyphRaw (N : Led) (v vx vy vw vs : Value) : Prop :=
  ∃ a da t1 u1 u2 u3 u4 u5 g1 g2 g3 g4 g5, v = .ref a ∧ (a, instObj 496 da) ∈ N ∧
    (da, dictOf [⟨g1, .str (Str.ofString "text") u1, .str (Str.ofString "a") t1⟩, ⟨g2, .str (Str.ofString "x") u2, vx⟩, ⟨g3, .str (Str.ofString "y") u3, vy⟩, ⟨g4, .str (Str.ofString "width") u4, vw⟩, ⟨g5, .str (Str.ofString "size") u5, vs⟩] 5) ∈ N
set_option maxHeartbeats 4000000 in
theorem glyph_raw (w : World) (t : Tok) {vx vy vw vs : Addr} {N : Led} :
    Tell w 496 [.str (Str.ofString "a") t, .ref vx, .ref vy, .ref vw, .ref vs] 3 N (fun r N' => ∃ tl, GlyphRaw tl r (.ref vx) (.ref vy) (.ref vw) (.ref vs) ∧ N' = tl ++ N ∧ Above tl N) := by
  unfold Tell
  k_fill
  intro loose mean mg mb dp un gd cn cs a ccd cl outer A₀ base h₀ L m s Q E B F X N T hcs hd hu hret
  k_dflt (refine' call_cls ?k1 ?k2 ?k3 ?k4 ?k5 ?k6 ?_; (case k1 => k_asm); (case k2 => k_asm); (case k3 => k_asm); (case k4 => k_is); (case k5 => k_is); (case k6 => k_is); k_whole; intro x' d' h' F' N' l1 l2; (try k_lt l1); (try k_lt2 l2); (try k_sweep))
  k_dflt ktr_enter
  k_steps
  rename_i kF kN Tc kX
  exact hret _ _ _ _ kF kN ⟨[_, _], ⟨_, _, _, _, _, _, _, _, _, _, _, _, _, rfl, .head _, .tail _ (.head _)⟩, rfl, above_two (allLt_of l1) l2⟩
theorem glyph_unp {h₀ h' : Heap} {L : Addr} {m : Str → Option Value} {s : Shared} {I : Addr} {oI : Obj} {C D : Addr} {oC' oD : Obj} {mC' : Str → Option Value} {n tl1 tl2 tl3 tl4 tlG : Led} {r : Value} {tk' : Nat} {vx vy vw vs : Addr} {x y wd sz : Int}
    (F : Fr h₀ L h' m) (hC : LCg.NsObj oC' mC') (N : News h₀ L h' (tlG ++ (tl4 ++ (tl3 ++ (tl2 ++ (tl1 ++ Three I oI C oC' D oD n)))))) (a1 : Above tl1 (Three I oI C oC' D oD n)) (a2 : Above tl2 (tl1 ++ Three I oI C oC' D oD n)) (a3 : Above tl3 (tl2 ++ (tl1 ++ Three I oI C oC' D oD n))) (a4 : Above tl4 (tl3 ++ (tl2 ++ (tl1 ++ Three I oI C oC' D oD n)))) (aG : Above tlG (tl4 ++ (tl3 ++ (tl2 ++ (tl1 ++ Three I oI C oC' D oD n)))))
    (d1 : DecAt tl1 (.ref vx) x) (d2 : DecAt tl2 (.ref vy) y) (d3 : DecAt tl3 (.ref vw) wd) (d4 : DecAt tl4 (.ref vs) sz) (g : GlyphRaw tlG r (.ref vx) (.ref vy) (.ref vw) (.ref vs)) : UnpEnd GlyphAt h₀ L m s I oI C D oD n ⟨x, y, wd, sz⟩ r { s with heap := h', toks := tk' } := by
  refine UnpEnd.of (tl := tlG ++ (tl4 ++ (tl3 ++ (tl2 ++ tl1)))) F hC (by simpa only [List.append_assoc] using N) (fun q hq p hp => ?_) ?_
  · simp only [List.mem_append] at hp
    rcases hp with h | h | h | h | h
    · exact aG q (inR (inR (inR (inR hq)))) p h
    · exact a4 q (inR (inR (inR hq))) p h
    · exact a3 q (inR (inR hq)) p h
    · exact a2 q (inR hq) p h
    · exact a1 q hq p h
  · obtain ⟨a, da, t1, u1, u2, u3, u4, u5, g1, g2, g3, g4, g5, e, h1, h2⟩ := g
    exact ⟨a, da, t1, u1, u2, u3, u4, u5, g1, g2, g3, g4, g5, vx, vy, vw, vs, e, inL (inL h1), inL (inL h2), d1.mono fun p hp => inL (inR (inR (inR (inR hp)))), d2.mono fun p hp => inL (inR (inR (inR (inL hp)))), d3.mono fun p hp => inL (inR (inR (inL hp))), d4.mono fun p hp => inL (inR (inL hp))⟩
theorem unp_int {h₀ h' : Heap} {L : Addr} {m : Str → Option Value} {s : Shared} {I : Addr} {oI : Obj} {C D : Addr} {oC' oD : Obj} {mC' : Str → Option Value} {n : Led} {i : Int} {t : Tok} {tk' : Nat} (F : Fr h₀ L h' m) (hC : LCg.NsObj oC' mC') (N : News h₀ L h' (Three I oI C oC' D oD n)) : UnpEnd IntR h₀ L m s I oI C D oD n i (.int i t) { s with heap := h', toks := tk' } := UnpEnd.of (tl := []) F hC N above_nil ⟨t, rfl⟩
/-- one name over a tuple of the ledger, item by item -/
theorem tup_map {prog : Program} {w : World} {A : Around} {E : Value → Shared → Prop} {s : Shared} {h₀ : Heap} {L : Addr} {m : Str → Option Value} {env : Env} {elt iter : PySem.Expr} {scope : Scope} {cl : List (Str × Addr)} {pos : Pos} {x : Str} {δ : Type} (R : Led → Value → δ → Prop) (mono : ∀ N N' v d, (∀ p ∈ N, p ∈ N') → R N v d → R N' v d) (ds : List δ) {px : Pos} {ax : Addr} {vs : List Value} {c : Nat} {news : Led} {Q : Value → Shared → Prop} (hh : A.handled = none)
    (hcell : ∀ y ∈ scope.names, y.2 ≠ .cell) (hkind : scope.kind = .function) (hx : scope.names.lookup x = some .local)
    (F : Fr h₀ L s.heap m) (N : News h₀ L s.heap news) (hm : (ax, tupO vs c) ∈ news) (hz : vs.length < 1000000) (hl : vs.length = ds.length)
    (turn : ∀ (k : Nat) (v : Value) (d : δ) tl ys I oI C oC D m₂ h tk (E' : Value → Shared → Prop), vs[k]? = some v → ds[k]? = some d → LCg.NsObj oC m₂ → m₂ x = some v → Fr h₀ L h m → News h₀ L h (Three I oI C oC D (LCg.lst ys) (tl ++ news)) → ((@Ne Nat I C) ∧ (@Ne Nat I D) ∧ (@Ne Nat C D)) →
      wpAny (model prog w) A (eval elt (compEnvC scope cl C env)) (EltEnd R h₀ L m s (Three I oI C oC D (LCg.lst ys) (tl ++ news)) (tl ++ news) d) E' (⟨h, s.gens, s.drawn, tk, s.os⟩ : Shared))
    (hQ : ∀ I g, BlockOK prog w A E h₀ L m env elt [⟨.Name x px, iter, [], 0⟩] scope cl pos I (fun ys n => ∃ tl, n = tl ++ news ∧ Above tl news ∧ AllR R n ys ds) { s with heap := g } → Q (.ref I) { s with heap := g }) :
    wpAny (model prog w) A (pyIter (.ref ax)) Q E s := by
  refine block_tuple hh hcell hkind hx F N hm hz (fun s₂ hs₂ => ?_) hQ
  obtain ⟨g, rfl⟩ := hs₂
  have := comp_rest (prog := prog) (w := w) (A := A) (s := { s with heap := g }) (h₀ := h₀) (L := L) (m := m) (env := env) (elt := elt) (x := x) (scope := scope) (cl := cl) (S := fun n => (ax, tupO vs c) ∈ n) (P := fun i v => vs.toArray[i]? = some v) (Fin := fun ys n => ∃ tl, n = tl ++ news ∧ Above tl news ∧ AllR R n ys ds) vs (fun pre ys n => MapJ R news ds pre.length ys n)
    (fun pre a post v ys n I oI C oC D m₂ h tk E' e hP hJ hC hx F₂ N₂ off ne => by
      obtain ⟨tl, hn, hA, hR⟩ := id hJ
      have hv' : vs[pre.length]? = some v := by simpa using hP
      have hlt : pre.length < ds.length := by rw [← hl, e, List.length_append, List.length_cons]; omega
      subst hn
      refine wpAny_mono (turn pre.length v ds[pre.length] tl ys I oI C oC D m₂ h tk E' hv' (List.getElem?_eq_getElem hlt) hC hx F₂ N₂ ne) (fun y s₄ h₄ => ?_) fun _ _ e => e
      obtain ⟨h', tk', tl9, rfl, F', N', hA', hr⟩ := h₄
      refine compEnd_of F' N' hA' off ?_ ?_
      · exact inR (inR hm)
      · rw [List.length_append, List.length_singleton]
        exact MapJ.step mono hJ (List.getElem?_eq_getElem hlt) (above_sub hA' fun p hp => .tail _ (.tail _ (.tail _ hp))) hr) (fun ys n hJ => by
      obtain ⟨tl, e, hA, hR⟩ := hJ
      rw [hl, List.take_length] at hR
      exact ⟨tl, e, hA, hR⟩) vs [] [] news rfl ⟨[], rfl, above_nil, by rw [List.length_nil, List.take_zero]; exact .nil⟩
  exact this
open Classical in
theorem dat_shaped {d : Dat} {n : Nat} (ok : kqdOk n d = true) (hn : n ≤ 10) : SeqAt.shaped (kqdP d) = true := by
  have la := kqd_lay n d ok
  unfold SeqAt.shaped
  rw [la.1, Bool.true_and]
  exact decide_eq_true (Nat.le_trans la.2 (Nat.le_trans hn (by decide)))
section
variable {prog : Program} {w : World} {A : Around} {E : Value → Shared → Prop} {s : Shared} {h₀ : Heap} {L : Addr} {news : Led} {a b : Value} {d : Dat} {Q : Value → Shared → Prop}
theorem eq_same (N : News h₀ L s.heap news) (ha : DatIn news a d) (hb : DatIn news b d) (ok : kqdOk 10 d = true) (hu : A.units + 64 < cLine) (h : Q (.bool true) s) : wpAny (model prog w) A (compareOp .Eq a b) Q E s := by
  obtain ⟨as, ra⟩ := kqd_in N 10 ha ok
  obtain ⟨bs, rb⟩ := kqd_in N 10 hb ok
  refine eq_dataH ra rb (dat_shaped ok (Nat.le_refl _)) (dat_shaped ok (Nat.le_refl _)) hu ?_
  rw [(kqd_eqv 10 d d 10 ok ok).mpr rfl]
  exact h
theorem ne_same (N : News h₀ L s.heap news) (ha : DatIn news a d) (hb : DatIn news b d) (ok : kqdOk 10 d = true) (hu : A.units + 64 < cLine) (h : Q (.bool false) s) : wpAny (model prog w) A (compareOp .NotEq a b) Q E s := by
  obtain ⟨as, ra⟩ := kqd_in N 10 ha ok
  obtain ⟨bs, rb⟩ := kqd_in N 10 hb ok
  refine ne_dataH ra rb (dat_shaped ok (Nat.le_refl _)) (dat_shaped ok (Nat.le_refl _)) hu ?_
  rw [(kqd_eqv 10 d d 10 ok ok).mpr rfl]
  exact h
end
def decD (n : Int) : Dat := .tuple [.int n, .int 0]
set_option maxHeartbeats 4000000 in
theorem dtold_tell (w : World) {v : Value} {n : Int} {N : Led} (h1 : DecAt N v n) :
    Tell w 138 [v] 2 N (fun r N' => ∃ tl, DatIn tl r (decD n) ∧ N' = tl ++ N ∧ Above tl N) := by
  unfold Tell
  k_fill
  intro loose mean mg mb dp un gd cn cs a0 ccd cl outer A₀ base h₀ L m s Q E B F X Nw T hcs hd hu hret
  obtain ⟨x1, d1, p1, p2, p3, p4, p5, p6, rfl, hx1, hd1⟩ := id h1
  refine wpAny_call ?_
  k_dflt ktr_enter
  walk
  rename (∀ p ∈ N, p.1 < _) => l9
  rename_i kF kN Tc kX
  exact hret _ _ _ _ kF kN ⟨[_], DatIn.tuple (.head _) (.cons (.int _ _) (.cons (.int _ _) .nil)), rfl, above_lt l9⟩
end
local macro_rules | `(tactic| walk_at "call builtin:min") => `(tactic| (k_here; (with_reducible show wpAny _ _ (call (Value.builtin _) [Value.ref _]) _ _ _); (with_unfolding_all refine' kso_min ?k1 ?k2 ?k3 ?k4 ?k5 ?k6 ?_; (case k1 => k_asm); (case k2 => k_asm); (case k3 => exact News.isList (by k_asm) (by k_mem)); (case k4 => assumption); (case k5 => assumption); (case k6 => with_unfolding_all rfl); k_whole); intro h' M' t' k' F' N' a' b'; (try k_sweep)))
local macro_rules | `(tactic| walk_at "call builtin:max") => `(tactic| (k_here; (with_reducible show wpAny _ _ (call (Value.builtin _) [Value.ref _]) _ _ _); (with_unfolding_all refine' kso_max ?k1 ?k2 ?k3 ?k4 ?k5 ?k6 ?_; (case k1 => k_asm); (case k2 => k_asm); (case k3 => exact News.isList (by k_asm) (by k_mem)); (case k4 => assumption); (case k5 => assumption); (case k6 => with_unfolding_all rfl); k_whole); intro h' M' t' k' F' N' a' b'; (try k_sweep)))
local macro_rules | `(tactic| walk_at "call type:range") => `(tactic| (k_here; (with_reducible show wpAny _ _ (call (Value.type "range") [Value.int _ _]) _ _ _); k_dflt (refine' range_mem ?F ?N ?_; (case F => k_asm); (case N => k_asm)); intro r9 h9 tk9 t9 v9 hr9 F9 N9; (try k_sweep)))
local macro_rules | `(tactic| walk_at "call builtin:list.append") => `(tactic| (k_here; (with_reducible show wpAny _ _ (call (Value.builtin "list.append") [Value.ref _, _]) _ _ _); k_dflt (refine' append_mem ?F ?N ?a ?z ?_; (case F => k_asm); (case N => k_asm); (case a => k_mem); (case z => omega)); intro h9 F9 N9; (try k_sweep)))
local macro_rules | `(tactic| walk_at "storeName") => `(tactic| (k_here; (with_reducible show wpAny _ _ (storeName (compEnvC _ _ _ _) _ _) _ _ _); k_dflt (refine' store_comp ?F ?N ?C ?ne ?off ?hl ?hk ?_; (case F => k_asm); (case N => k_asm); (case C => assumption); (case ne => assumption); (case off => assumption); (case hl => rfl); (case hk => rfl)); intro h9 oC9 tk9 F9 N9 hC9))
local macro_rules | `(tactic| walk_at "call ref") => `(tactic| (k_here; (with_reducible show wpAny _ _ (call (Value.ref 496) [Value.str _ _, Value.ref _, Value.ref _, Value.ref _, Value.ref _]) _ _ _); k_dflt (refine' Tell.use (glyph_raw _ _) ?k1 ?k2 ?k3 ?k4 ?k5 ?kK ?kd ?ku ?_; (case k1 => k_asm); (case k2 => k_asm); (case k3 => k_asm); (case k4 => k_asm); (case k5 => k_asm); (case kK => first | exact rfl | assumption); (case kd => ktr_room); (case ku => ktr_units); intro r9 N9 h9 tk9 F9 M9 ho9; obtain ⟨tl9, hD9, eN9, hA9⟩ := ho9; subst eN9; (try dsimp only); (try k_fold))))
local macro_rules | `(tactic| walk_at "call ref") => `(tactic| (k_here; (with_reducible show wpAny _ _ (call (Value.ref 155) [Value.int _ _, Value.int _ _]) _ _ _); k_dflt (refine' Tell.use (dec_new _ _ _ _ _) ?k1 ?k2 ?k3 ?k4 ?k5 ?kK ?kd ?ku ?_; (case k1 => k_asm); (case k2 => k_asm); (case k3 => k_asm); (case k4 => k_asm); (case k5 => k_asm); (case kK => first | exact rfl | assumption); (case kd => ktr_room); (case ku => ktr_units); intro r9 N9 h9 tk9 F9 M9 ho9; obtain ⟨tl9, hD9, eN9, hA9⟩ := ho9; obtain ⟨x9, er9, hD9⟩ := dec_ref hD9; subst er9; subst eN9; (try dsimp only); (try k_fold))))
local macro_rules | `(tactic| walk_at "call ref") => `(tactic| (k_here; (with_reducible show wpAny _ _ (call (Value.ref 138) _) _ _ _); k_dflt (show wpAny _ _ (call (Value.ref 138) [_]) _ _ _); k_dflt (refine' Tell.use (dtold_tell _ ?h1) ?k1 ?k2 ?k3 ?k4 ?k5 ?kK ?kd ?ku ?_; (case k1 => k_asm); (case k2 => k_asm); (case k3 => k_asm); (case k4 => k_asm); (case k5 => k_asm); (case kK => first | exact rfl | assumption); (case h1 => ktr_rel); (case kd => ktr_room); (case ku => ktr_units); intro r9 N9 h9 tk9 F9 M9 ho9; obtain ⟨tl9, hT9, eN9, hA9⟩ := ho9; subst eN9; (try dsimp only); (try k_fold))))
section
theorem xs_eq {f0 : Four} {fs : List Four} : ((f0 :: fs).map (·.1) ++ (f0 :: fs).map fun f => f.1 + f.2.2.1) = (toGl f0).x :: boxXs (toGl f0) (fs.map toGl) := by
  simp [boxXs, toGl, Function.comp_def]
theorem ys_eq {f0 : Four} {fs : List Four} : ((f0 :: fs).map (·.2.1) ++ (f0 :: fs).map fun f => f.2.1 + f.2.2.2) = (toGl f0).y :: boxYs (toGl f0) (fs.map toGl) := by
  simp [boxYs, toGl, Function.comp_def]
local macro_rules | `(tactic| walk_at "call ref") => `(tactic| (k_here; (with_reducible show wpAny _ _ (call (Value.ref 155) [Value.int _ _, Value.int _ _]) _ _ _); k_dflt (refine' Tell.use (dec_new _ _ _ _ _) ?k1 ?k2 ?k3 ?k4 ?k5 ?kK ?kd ?ku ?_; (case k1 => k_asm); (case k2 => k_asm); (case k3 => k_asm); (case k4 => k_asm); (case k5 => k_asm); (case kK => first | exact rfl | assumption); (case kd => ktr_room); (case ku => ktr_units); intro r9 N9 h9 tk9 F9 M9 ho9; obtain ⟨tl9, hD9, eN9, hA9⟩ := ho9; obtain ⟨x9, er9, hD9⟩ := dec_ref hD9; subst er9; obtain ⟨_, dx9, _, _, _, _, _, _, ex9, hx9, hdx9⟩ := id hD9; cases ex9; subst eN9; (try dsimp only); (try k_fold))))
local macro_rules | `(tactic| walk) => `(tactic| repeat' (first | ((fail_if_success (first | (with_reducible show wpAny _ _ (subscriptTail _ _ (Value.ref _) (Value.str _ _)) _ _ _) | (with_reducible show wpAny _ _ (call (Value.ref 312) _) _ _ _) | (with_reducible show wpAny _ _ (call (Value.ref 445) _) _ _ _) | (with_reducible show wpAny _ _ (compareOp _ (Value.ref _) (Value.ref _)) _ _ _) | (with_reducible show EltEnd _ _ _ _ _ _ _ _ _ _) | (with_reducible show LCt.CompSrcT _ _ _ _ _ _ _ _ _ _ _ _ _ _ _) | (with_reducible show LCg.CompSrc _ _ _ _ _ _ _ _ _ _ _ _ _ _) | (with_reducible show LCg.CompEnd _ _ _ _ _ _ _ _ _ _ _ _ _ _) | (with_reducible show LCg.FinE _ _ _ _ _ _ _) | (with_reducible show LCg.FinA _ _ _ _ _ _ _ _) | (with_reducible show TurnEnd _ _ _ _ _ _ _ _ _) | (with_reducible show wpAny _ _ (pyIter _) _ _ _) | (with_reducible show wpAny _ _ (exec (Stmt.For _ _ _ _ _) _) _ _ _) | (with_reducible show wpAny _ _ (eval (Expr.ListComp _ _ _ _) _) _ _ _) | (with_reducible show wpAny _ _ (exec (Stmt.Assign _ (Expr.ListComp _ _ _ _) _) _) _ _ _))); (first | (k_unfold; (try dsimp only)) | (k_end; wrow_close) | walk1 | (dsimp only; walk1) | (leave1; walk_say "STEP leave1"; try dsimp only))) | fail "no step"))
set_option maxHeartbeats 8000000 in
theorem boxr_tell (w : World) {t c : Addr} {k : Int} {tk : Tok} {nt nc : Nat} {vs : List Value} {ns : List Int} {I : Led}
    (ht : ∀ p ∈ I, p.1 ≠ t) (hc : (c, listOf vs.toArray nc) ∈ I) (hct : c ≠ t) (hv : IntsAre vs ns) (h1 : 0 < ns.length) (h2 : ns.length ≤ 40) (hk : 0 ≤ k) (hk2 : k ≤ 60) :
    Tell w 531 [.ref t] 60 ((t, tapeO c k tk nt) :: I) (fun r N' => r = .bool true) := by
  unfold Tell
  k_fill
  intro loose mean mg mb dp un gd cn cs a0 ccd cl outer A₀ base h₀ L m s Q E B F X Nw T hcs hd hu hret
  refine wpAny_call ?_
  k_dflt ktr_enter
  walk
  walk1
  walk
  rename IsRange _ _ _ _ _ _ _ _ => hr
  rename Fr _ _ _ _ => F1
  rename News _ _ _ _ => N1
  rename (0 ≤ _) => hd0
  rename (_ < (3 : Int)) => hd3
  have hrf := range_of hd0 (by omega)
  rename (_ < _ ∧ AllLt _ I) => lS
  have hSt := lS.1
  have lSI : ∀ p ∈ I, p.1 ≠ _ := fun p hp => Nat.ne_of_lt (ktn_ltOf lS.2 p hp)
  k_dflt (refine for_range (fun i mm nn => BoxJ t c _ (k + 1) nt I _ i mm nn) rfl F1 N1 hr hrf.1 hrf.2 ⟨[], [], _, _, [], 0, rfl, rfl, .nil, Int.le_refl _, by omega, fun p hp => ⟨ht p hp, lSI p hp⟩, .inl ⟨rfl, rfl⟩⟩ ?_ ?_)
  · rintro I' i mm nn it tt h9 tk9 hI hi ⟨ws, fs, kk, tkk, tl, cS, rfl, hwl, hwf, hk1, hk3, hoffI, hmm⟩ F2 N2 hoff
    have hI't : @Ne Nat t I' := hoff _ (.tail _ (.head _))
    have hI'S : @Ne Nat _ I' := hoff _ (.head _)
    have hoffT : ∀ p ∈ tl ++ I, p.1 ≠ t := fun p hp => (hoffI p hp).1
    have hi3 : i < 3 := by omega
    dsimp only at hI't hI'S
    rcases hmm with ⟨hi0, rfl⟩ | ⟨vk, rfl⟩
    · walk
      rename (I' < _ ∧ _) => l9
      rename Fr _ _ _ _ => F9
      rename News _ _ _ _ => N9
      exact box_turn F9 N9 l9 hoff hwl hwf (by omega) (by omega) hoffI hSt rfl
    · walk
      rename (I' < _ ∧ _) => l9
      rename Fr _ _ _ _ => F9
      rename News _ _ _ _ => N9
      exact box_turn F9 N9 l9 hoff hwl hwf (by omega) (by omega) hoffI hSt k_map
  · rintro mm nn h9 tk9 ⟨ws, fs, kk, tkk, tl, cS, rfl, hwl, hwf, hk1, hk3, hoffI, hmm⟩ F2 N2
    obtain ⟨vk, rfl⟩ : ∃ vk, mm = _ := hmm.resolve_left fun h => by omega
    have hws : 0 < ws.length ∧ ws.length ≤ 3 := by omega
    clear hmm hr hrf
    obtain ⟨f0, fs', rfl⟩ : ∃ f0 fs', fs = f0 :: fs' := by
      cases fs with
      | nil => cases hwf; simp at hws
      | cons a b => exact ⟨a, b, rfl⟩
    have hfl' := hwf.len
    rw [List.length_cons] at hfl'
    walk
    have hvr : ∀ v ∈ ws, ∃ T, v = Value.ref T := fun v hv => by
      obtain ⟨j, hj⟩ := List.getElem?_of_mem hv
      obtain ⟨f, hf⟩ : ∃ f, (f0 :: fs')[j]? = some f := ⟨_, List.getElem?_eq_getElem (by have := (List.getElem?_eq_some_iff.mp hj).1; have := hwf.len; omega)⟩
      obtain ⟨ta, _, _, _, _, _, e, _⟩ := hwf.get hj hf
      exact ⟨ta, e⟩
    have hfl := hwf.len
    rename Fr _ _ _ _ => F1
    k_dflt (refine assign_blockF F1 (by rfl) (by with_unfolding_all rfl) (by rfl) (by decide) (by rfl) (by rfl) ?_ (by intro _; rfl))
    walk
    rename Fr _ _ _ _ => F2
    rename News _ _ _ _ => N2
    refine unpack_map GlyphAt (fun _ _ _ _ s h => h.mono s) ((f0 :: fs').map toGl) (by rfl) (by decide) (by rfl) F2 N2 (by k_mem) (by omega) hvr (by rw [List.length_map]; exact hfl) ?_ (fun I g hOK => ⟨I, _, rfl, hOK, ?_⟩)
    · intro j v d tl8 ys8 I oI C oC D mC h tk E' hv hd hC F3 N3 ne offC
      rw [List.getElem?_map] at hd
      obtain ⟨f, hf, rfl⟩ := Option.map_eq_some_iff.mp hd
      obtain ⟨ta, tc, t1, t2, t3, t4, rfl, hta⟩ := hwf.get hv hf
      refine holdU ?_
      walk
      rename LCg.NsObj _ _ => hC9
      obtain ⟨mC9, hC8, e1, e2, e3, e4⟩ := four_names hC9 (by decide)
      clear hC9
      refine HeldU.mk ?_
      walk
      rename Above _ (Three _ _ _ _ _ _ _) => a1
      rename Above _ (_ ++ Three _ _ _ _ _ _ _) => a2
      rename Above _ (_ ++ (_ ++ Three _ _ _ _ _ _ _)) => a3
      rename Above _ (_ ++ (_ ++ (_ ++ Three _ _ _ _ _ _ _))) => a4
      rename Above _ (_ ++ (_ ++ (_ ++ (_ ++ Three _ _ _ _ _ _ _)))) => aG
      rename DecAt _ _ f.1 => d1
      rename DecAt _ _ f.2.1 => d2
      rename DecAt _ _ f.2.2.1 => d3
      rename DecAt _ _ f.2.2.2 => d4
      rename GlyphRaw _ _ _ _ _ _ => gr
      rename Fr _ _ _ _ => F9
      rename News _ _ _ _ => N9
      exact glyph_unp F9 hC8 N9 a1 a2 a3 a4 aG d1 d2 d3 d4 gr
    rintro ys2 nn2 D2 h2 tk2 ⟨tl2, rfl, hA2, hR2⟩ F2 N2 off2
    have hl2 : ys2.length = fs'.length + 1 := by rw [hR2.len, List.length_map, List.length_cons]
    have hR2' : AllR GlyphAt _ ys2 (toGl f0 :: fs'.map toGl) := hR2
    walk
    k_dflt (refine eval_blockF (by k_asm) (by rfl) (by rfl) (by decide) ?_ (by intro _; rfl))
    walk
    rename Fr _ _ _ _ => F2
    rename News _ _ _ _ => N2
    refine unpack_map IntR (fun _ _ _ _ _ h => h) ((f0 :: fs').map (·.1)) (by rfl) (by decide) (by rfl) F2 N2 (by k_mem) (by omega) hvr (by rw [List.length_map]; exact hfl) ?_ (fun I g hOK => ⟨I, _, rfl, hOK, ?_⟩)
    · intro j v d tl8 ys8 I oI C oC D mC h tk E' hv hd hC F3 N3 ne offC
      rw [List.getElem?_map] at hd
      obtain ⟨f, hf, rfl⟩ := Option.map_eq_some_iff.mp hd
      obtain ⟨ta, tc, t1, t2, t3, t4, rfl, hta⟩ := hwf.get hv hf
      refine holdU ?_
      walk
      rename LCg.NsObj _ _ => hC9
      obtain ⟨mC9, hC8, e1, e2, e3, e4⟩ := four_names hC9 (by decide)
      clear hC9
      refine HeldU.mk ?_
      walk
      exact unp_int (by k_asm) hC8 (by k_asm)
    rintro ys3 nn3 D3 h3 tk3 ⟨tl3, rfl, hA3, hR3⟩ F3 N3 off3
    have hl3 : ys3.length = fs'.length + 1 := by rw [hR3.len, List.length_map, List.length_cons]
    have hI3 := intR_are hR3
    walk
    k_dflt (refine eval_blockF (by k_asm) (by rfl) (by rfl) (by decide) ?_ (by intro _; rfl))
    walk
    rename Fr _ _ _ _ => F2
    rename News _ _ _ _ => N2
    refine unpack_map IntR (fun _ _ _ _ _ h => h) ((f0 :: fs').map fun f => f.1 + f.2.2.1) (by rfl) (by decide) (by rfl) F2 N2 (by k_mem) (by omega) hvr (by rw [List.length_map]; exact hfl) ?_ (fun I g hOK => ⟨I, _, rfl, hOK, ?_⟩)
    · intro j v d tl8 ys8 I oI C oC D mC h tk E' hv hd hC F3 N3 ne offC
      rw [List.getElem?_map] at hd
      obtain ⟨f, hf, rfl⟩ := Option.map_eq_some_iff.mp hd
      obtain ⟨ta, tc, t1, t2, t3, t4, rfl, hta⟩ := hwf.get hv hf
      refine holdU ?_
      walk
      rename LCg.NsObj _ _ => hC9
      obtain ⟨mC9, hC8, e1, e2, e3, e4⟩ := four_names hC9 (by decide)
      clear hC9
      refine HeldU.mk ?_
      walk
      exact unp_int (by k_asm) hC8 (by k_asm)
    rintro ys4 nn4 D4 h4 tk4 ⟨tl4, rfl, hA4, hR4⟩ F4 N4 off4
    have hl4 : ys4.length = fs'.length + 1 := by rw [hR4.len, List.length_map, List.length_cons]
    have hI4 := intR_are hR4
    walk
    k_dflt (refine eval_blockF (by k_asm) (by rfl) (by rfl) (by decide) ?_ (by intro _; rfl))
    walk
    rename Fr _ _ _ _ => F2
    rename News _ _ _ _ => N2
    refine unpack_map IntR (fun _ _ _ _ _ h => h) ((f0 :: fs').map (·.2.1)) (by rfl) (by decide) (by rfl) F2 N2 (by k_mem) (by omega) hvr (by rw [List.length_map]; exact hfl) ?_ (fun I g hOK => ⟨I, _, rfl, hOK, ?_⟩)
    · intro j v d tl8 ys8 I oI C oC D mC h tk E' hv hd hC F3 N3 ne offC
      rw [List.getElem?_map] at hd
      obtain ⟨f, hf, rfl⟩ := Option.map_eq_some_iff.mp hd
      obtain ⟨ta, tc, t1, t2, t3, t4, rfl, hta⟩ := hwf.get hv hf
      refine holdU ?_
      walk
      rename LCg.NsObj _ _ => hC9
      obtain ⟨mC9, hC8, e1, e2, e3, e4⟩ := four_names hC9 (by decide)
      clear hC9
      refine HeldU.mk ?_
      walk
      exact unp_int (by k_asm) hC8 (by k_asm)
    rintro ys5 nn5 D5 h5 tk5 ⟨tl5, rfl, hA5, hR5⟩ F5 N5 off5
    have hl5 : ys5.length = fs'.length + 1 := by rw [hR5.len, List.length_map, List.length_cons]
    have hI5 := intR_are hR5
    walk
    k_dflt (refine eval_blockF (by k_asm) (by rfl) (by rfl) (by decide) ?_ (by intro _; rfl))
    walk
    rename Fr _ _ _ _ => F2
    rename News _ _ _ _ => N2
    refine unpack_map IntR (fun _ _ _ _ _ h => h) ((f0 :: fs').map fun f => f.2.1 + f.2.2.2) (by rfl) (by decide) (by rfl) F2 N2 (by k_mem) (by omega) hvr (by rw [List.length_map]; exact hfl) ?_ (fun I g hOK => ⟨I, _, rfl, hOK, ?_⟩)
    · intro j v d tl8 ys8 I oI C oC D mC h tk E' hv hd hC F3 N3 ne offC
      rw [List.getElem?_map] at hd
      obtain ⟨f, hf, rfl⟩ := Option.map_eq_some_iff.mp hd
      obtain ⟨ta, tc, t1, t2, t3, t4, rfl, hta⟩ := hwf.get hv hf
      refine holdU ?_
      walk
      rename LCg.NsObj _ _ => hC9
      obtain ⟨mC9, hC8, e1, e2, e3, e4⟩ := four_names hC9 (by decide)
      clear hC9
      refine HeldU.mk ?_
      walk
      exact unp_int (by k_asm) hC8 (by k_asm)
    rintro ys6 nn6 D6 h6 tk6 ⟨tl6, rfl, hA6, hR6⟩ F6 N6 off6
    have hl6 : ys6.length = fs'.length + 1 := by rw [hR6.len, List.length_map, List.length_cons]
    have hI6 := intR_are hR6
    have hIa : IntsAre (ys3 ++ ys4) ((toGl f0).x :: boxXs (toGl f0) (fs'.map toGl)) := by have := ints_app hI3 hI4; rwa [xs_eq] at this
    have hIu : IntsAre (ys5 ++ ys6) ((toGl f0).y :: boxYs (toGl f0) (fs'.map toGl)) := by have := ints_app hI5 hI6; rwa [ys_eq] at this
    have hma : 0 < ((toGl f0).x :: boxXs (toGl f0) (fs'.map toGl)).length := Nat.succ_pos _
    have hmu : 0 < ((toGl f0).y :: boxYs (toGl f0) (fs'.map toGl)).length := Nat.succ_pos _
    walk
    rename (∀ a : Int, a ∈ (toGl f0).y :: _ → a ≤ _) => bm4
    rename (∀ a : Int, a ∈ (toGl f0).y :: _ → _ ≤ a) => bm2
    rename (∀ a : Int, a ∈ (toGl f0).x :: _ → a ≤ _) => bm3
    rename (∀ a : Int, a ∈ (toGl f0).x :: _ → _ ≤ a) => bm1
    have eM1 := min_fold (by assumption) bm1
    have eM2 := min_fold (by assumption) bm2
    have eM3 := max_fold (by assumption) bm3
    have eM4 := max_fold (by assumption) bm4
    subst eM1 eM2 eM3 eM4
    repeat (rename (_ < _ ∧ _) => lz; clear lz)
    clear hI3 hI4 hI5 hI6 hR3 hR4 hR5 hR6 hIa hIu hma hmu hl3 hl4 hl5 hl6 bm1 bm2 bm3 bm4 hA3 hA4 hA5 hA6 off3 off4 off5 off6 off2 hA2
    repeat (rename (_ ∈ (toGl f0).y :: _) => lz; clear lz)
    repeat (rename (_ ∈ (toGl f0).x :: _) => lz; clear lz)
    k_dflt (refine eval_blockF (by k_asm) (by rfl) (by rfl) (by decide) ?_ (by intro _; rfl))
    walk
    have hgl9 : ∀ M9 : Led, (∀ p ∈ tl2 ++ _, p ∈ M9) → AllR GlyphAt M9 ys2 (toGl f0 :: fs'.map toGl) := fun M9 k => AllR.monoR (fun _ _ h => GlyphAt.mono k h) hR2'
    k_dflt (refine' Tell.use (box_tell _ ?hl (hgl9 _ ?hg) ?hz) ?k1 ?k2 ?k3 ?k4 ?k5 ?kK ?kd ?ku ?_; (case k1 => k_asm); (case k2 => k_asm); (case k3 => k_asm); (case k4 => k_asm); (case k5 => k_asm); (case kK => first | exact rfl | assumption); (case hl => k_mem); (case hg => (intro p hp; k_mem)); (case hz => (rw [List.length_map]; omega)); (case kd => ktr_room); (case ku => ktr_units))
    rintro r9 N9 h9 tk9 F9 M9 ⟨tl9, ⟨ba9, bc9, b1, b2, b3, b4, rfl, hm9, db1, db2, db3, db4⟩, rfl, hA9⟩
    (try dsimp only)
    (try k_fold)
    walk
    rename Fr _ _ _ _ => F2
    rename News _ _ _ _ => N2
    have hdb : AllR DecAt _ _ [(boxF (toGl f0) (fs'.map toGl)).1, (boxF (toGl f0) (fs'.map toGl)).2.1, (boxF (toGl f0) (fs'.map toGl)).2.2.1, (boxF (toGl f0) (fs'.map toGl)).2.2.2] := .cons db1 (.cons db2 (.cons db3 (.cons db4 .nil)))
    refine tup_map DatIn (fun _ _ _ _ s h => DatIn.mono s h) ([(boxF (toGl f0) (fs'.map toGl)).1, (boxF (toGl f0) (fs'.map toGl)).2.1, (boxF (toGl f0) (fs'.map toGl)).2.2.1, (boxF (toGl f0) (fs'.map toGl)).2.2.2].map decD) (by rfl) (by decide) (by rfl) (by rfl) F2 N2 (by k_mem) (by simp) rfl ?_ (fun I g hOK => ⟨I, _, rfl, hOK, ?_⟩)
    · intro j v d tl8 ys8 I oI C oC D m₂ h tk E' hv hd hC hx F3 N3 ne
      rw [List.getElem?_map] at hd
      obtain ⟨n, hn, rfl⟩ := Option.map_eq_some_iff.mp hd
      have hdv := AllR.get hdb hv hn
      obtain ⟨x1, rfl, hdv⟩ := dec_ref hdv
      obtain ⟨_, dx1, _, _, _, _, _, _, ex1, hx1, hdx1⟩ := id hdv
      cases ex1
      walk
      (try k_unfold)
      rename Above _ (Three _ _ _ _ _ _ _) => a9
      rename DatIn _ _ (decD n) => hT9
      exact EltEnd.of (by k_asm) (by k_asm) a9 (DatIn.mono (fun p hp => inL hp) hT9)
    rintro ys7 nn7 D7 h7 tk7 ⟨tl7, rfl, hA7, hR7⟩ F7 N7 off7
    walk
    k_dflt (refine eval_blockF (by k_asm) (by rfl) (by rfl) (by decide) ?_ (by intro _; rfl))
    walk
    rename Fr _ _ _ _ => F2
    rename News _ _ _ _ => N2
    refine tup_map DatIn (fun _ _ _ _ s h => DatIn.mono s h) ([(boxF (toGl f0) (fs'.map toGl)).1, (boxF (toGl f0) (fs'.map toGl)).2.1, (boxF (toGl f0) (fs'.map toGl)).2.2.1, (boxF (toGl f0) (fs'.map toGl)).2.2.2].map decD) (by rfl) (by decide) (by rfl) (by rfl) F2 N2 (vs := [.int _ _, .int _ _, .int _ _, .int _ _]) (by k_mem) (by simp) rfl ?_ (fun I g hOK => ⟨I, _, rfl, hOK, ?_⟩)
    · intro j v d tl8 ys8 I oI C oC D m₂ h tk E' hv hd hC hx F3 N3 ne
      rw [List.getElem?_map] at hd
      obtain ⟨n, hn, rfl⟩ := Option.map_eq_some_iff.mp hd
      obtain ⟨t9, rfl⟩ := intsAre_get (.cons _ _ (.cons _ _ (.cons _ _ (.cons _ _ .nil)))) hv hn
      walk
      (try k_unfold)
      rename Above _ (Three _ _ _ _ _ _ _) => a9
      rename Above _ (_ ++ Three _ _ _ _ _ _ _) => a10
      rename DatIn _ _ (decD n) => hT9
      rename Fr _ _ _ _ => F9
      rename News _ _ _ _ => N9
      rw [← List.append_assoc] at N9
      exact EltEnd.of F9 N9 (above_trans a9 a10) (DatIn.mono (fun p hp => inL (inL hp)) hT9)
    rintro ys8 nn8 D8 h8 tk8 ⟨tl8, rfl, hA8, hR8⟩ F8 N8 off8
    repeat (rename (_ < _ ∧ _) => lz; clear lz)
    walk
    have hd1 := datAll_of hR7
    have hd2 := datAll_of hR8
    refine eq_same (d := .list ([(boxF (toGl f0) (fs'.map toGl)).1, (boxF (toGl f0) (fs'.map toGl)).2.1, (boxF (toGl f0) (fs'.map toGl)).2.2.1, (boxF (toGl f0) (fs'.map toGl)).2.2.2].map decD)) N8 (DatIn.list (by k_mem) (DatAll.mono (fun p hp => by k_mem) hd1)) (DatIn.list (.head _) (DatAll.mono (fun p hp => .tail _ hp) hd2)) (by rfl) (by ktr_units) ?_
    walk
    rename_i kF kN Tc kX
    exact hret _ _ _ _ kF kN rfl
end
section
theorem four_close {h₀ h : Heap} {L D t : Addr} {ot : Obj} {I : Led} {a b x y : Int} {t1 t2 t3 t4 : Tok} {ct : Nat} (N : News h₀ L h ((D, tupO [.int a t1, .int b t2, .int x t3, .int y t4] ct) :: (t, ot) :: I)) (l : (@LT.lt Nat _ t D) ∧ AllLt D I) :
    ∃ f q, FourT [q] (.ref D) f ∧ News h₀ L h ((t, ot) :: q :: I) ∧ @LT.lt Nat _ t q.1 ∧ ∀ p ∈ I, @LT.lt Nat _ p.1 q.1 := by
  refine ⟨(a, b, x, y), (D, _), ⟨D, ct, t1, t2, t3, t4, rfl, .head _⟩, newsSub N fun p hp => ?_, l.1, ktn_ltOf l.2⟩
  rcases List.mem_cons.mp hp with rfl | hp
  · exact .tail _ (.head _)
  rcases List.mem_cons.mp hp with rfl | hp
  · exact .head _
  · exact .tail _ (.tail _ hp)
set_option maxHeartbeats 4000000 in
theorem four_new (w : World) (t c : Addr) (k : Int) (tk : Tok) (nt nc : Nat) (vs : List Value) (ns : List Int) (I : Led)
    (ht : ∀ p ∈ I, p.1 ≠ t) (hc : (c, listOf vs.toArray nc) ∈ I) (hct : c ≠ t) (hv : IntsAre vs ns) (h1 : 0 < ns.length) (h2 : ns.length ≤ 40) (hk : 0 ≤ k) (hk2 : k ≤ 90) :
    Tell w 514 [.ref t] 4 ((t, tapeO c k tk nt) :: I)
      (fun r N' => ∃ f tk' q, FourT [q] r f ∧ N' = (t, tapeO c (k + 1 + 1 + 1 + 1) tk' nt) :: q :: I ∧ @LT.lt Nat _ t q.1 ∧ ∀ p ∈ I, @LT.lt Nat _ p.1 q.1) := by
  unfold Tell
  k_fill
  intro loose mean mg mb dp un gd cn cs a ccd cl outer A₀ base h₀ L m s Q E B F X N T hcs hd hu hret
  refine wpAny_call ?_
  k_dflt ktr_enter
  walk
  rename_i l1 kF kN Tc kX
  obtain ⟨f, q, hf, hN, l2, l3⟩ := four_close kN l1
  exact hret _ _ _ _ kF hN ⟨f, _, q, hf, rfl, l2, l3⟩
theorem four_any (w : World) {t c : Addr} {k : Int} {tk : Tok} {nt nc : Nat} {vs : List Value} {ns : List Int} {N : Led}
    (hm : (t, tapeO c k tk nt) ∈ N) (hc : (c, listOf vs.toArray nc) ∈ N) (hct : c ≠ t) (hv : IntsAre vs ns) (h1 : 0 < ns.length) (h2 : ns.length ≤ 40) (hk : 0 ≤ k) (hk2 : k ≤ 90) :
    Tell w 514 [.ref t] 4 N (fun r N' => ∃ f tk' q, FourT [q] r f ∧ N' = (t, tapeO c (k + 1 + 1 + 1 + 1) tk' nt) :: q :: rest t N ∧ @LT.lt Nat _ t q.1 ∧ ∀ p ∈ rest t N, @LT.lt Nat _ p.1 q.1) := by
  have C := four_new w t c k tk nt nc vs ns (rest t N) rest_ne (mem_rest hc hct) hct hv h1 h2 hk hk2
  intro loose mean mg mb dp un gd cn cs a ccd cl outer A₀ base h₀ L m s Q E B F X Nw T hcs hd hu hret
  exact C.use B F X (newsFront Nw hm) T hcs hd hu hret
/-- a ledger with the tape at its head, old things I and new ones -/
def TapeJ (t c : Addr) (nt : Nat) (I : Led) (lo hi : Int) (P : Led → Prop) (nn : Led) : Prop :=
  ∃ k tk tl, nn = (t, tapeO c k tk nt) :: (tl ++ I) ∧ (∀ p ∈ tl ++ I, p.1 ≠ t) ∧ Above tl I ∧ lo ≤ k ∧ k ≤ hi ∧ P tl
theorem tape_step {h₀ h' : Heap} {L I C D t c : Addr} {oI oC oD ot : Obj} {m : Str → Option Value} {s : Shared} {tk' nt : Nat} {I2 tl : Led} {q : Addr × Obj} {k' lo hi : Int} {tkk : Tok} {y : Value} {P : Value → Led → Prop}
    (off : LCg.Off3 I C D ((t, ot) :: (tl ++ I2))) (hoffT : ∀ p ∈ tl ++ I2, p.1 ≠ t) (hA : Above tl I2) (F : Fr h₀ L h' m) (N : News h₀ L h' ((t, tapeO c k' tkk nt) :: q :: rest t (Three I oI C oC D oD ((t, ot) :: (tl ++ I2)))))
    (lt : @LT.lt Nat _ t q.1) (lq : ∀ p ∈ rest t (Three I oI C oC D oD ((t, ot) :: (tl ++ I2))), @LT.lt Nat _ p.1 q.1) (h1 : lo ≤ k') (h2 : k' ≤ hi) (hP : P y (q :: tl)) :
    LCg.CompEnd h₀ L m s I oI C oC D oD (fun _ => True) (fun y n' => TapeJ t c nt I2 lo hi (P y) n') y { s with heap := h', toks := tk' } := by
  have o3 := off.mem
  have ot3 := o3 _ (.head _)
  have rI : (I, oI) ∈ rest t (Three I oI C oC D oD ((t, ot) :: (tl ++ I2))) := mem_rest (.head _) (Ne.symm ot3.1)
  have rC : (C, oC) ∈ rest t (Three I oI C oC D oD ((t, ot) :: (tl ++ I2))) := mem_rest (.tail _ (.head _)) (Ne.symm ot3.2.1)
  have rD : (D, oD) ∈ rest t (Three I oI C oC D oD ((t, ot) :: (tl ++ I2))) := mem_rest (.tail _ (.tail _ (.head _))) (Ne.symm ot3.2.2)
  have rt : ∀ p ∈ tl ++ I2, p ∈ rest t (Three I oI C oC D oD ((t, ot) :: (tl ++ I2))) := fun p hp => mem_rest (.tail _ (.tail _ (.tail _ (.tail _ hp)))) (hoffT p hp)
  refine LCg.CompEnd.intro F N ((t, tapeO c k' tkk nt) :: ((q :: tl) ++ I2)) (fun p hp => ?_) (LCg.Off3.of fun p hp => ?_) trivial ⟨k', tkk, q :: tl, rfl, fun p hp => ?_, above_cons (fun x hx => Ne.symm (Nat.ne_of_lt (lq x (rt x (inR hx))))) hA, h1, h2, hP⟩
  · rcases List.mem_cons.mp hp with rfl | hp
    · exact .tail _ (.tail _ rI)
    rcases List.mem_cons.mp hp with rfl | hp
    · exact .tail _ (.tail _ rC)
    rcases List.mem_cons.mp hp with rfl | hp
    · exact .tail _ (.tail _ rD)
    rcases List.mem_cons.mp hp with rfl | hp
    · exact .head _
    rcases List.mem_cons.mp hp with rfl | hp
    · exact .tail _ (.head _)
    · exact .tail _ (.tail _ (rt p hp))
  · rcases List.mem_cons.mp hp with rfl | hp
    · exact ot3
    rcases List.mem_cons.mp hp with rfl | hp
    · exact ⟨Ne.symm (Nat.ne_of_lt (lq _ rI)), Ne.symm (Nat.ne_of_lt (lq _ rC)), Ne.symm (Nat.ne_of_lt (lq _ rD))⟩
    · exact o3 p (.tail _ hp)
  · rcases List.mem_cons.mp hp with rfl | hp
    · exact Ne.symm (Nat.ne_of_lt lt)
    · exact hoffT p hp
def RowR (N : Led) (v : Value) (q : Four × List Four) : Prop := ∃ a vs, v = .ref a ∧ (a, LCg.lst vs) ∈ N ∧ AllR FourT N vs (q.1 :: q.2) ∧ q.2.length ≤ 1
theorem RowR.mono {N N' : Led} {v : Value} {q : Four × List Four} (s : ∀ p ∈ N, p ∈ N') : RowR N v q → RowR N' v q
  | ⟨a, vs, e, h, r, l⟩ => ⟨a, vs, e, s _ h, AllR.monoR (fun _ _ h => FourT.mono s h) r, l⟩
theorem row_step {h₀ h' : Heap} {L I C D D1 t c : Addr} {oI oC oD o1 ot : Obj} {m : Str → Option Value} {s : Shared} {tk' nt : Nat} {I0 tl tl2 : Led} {k' lo hi : Int} {tkk : Tok} {y : Value} {P : Value → Led → Prop}
    (off : LCg.Off3 I C D ((t, ot) :: (tl ++ I0))) (hoffT : ∀ p ∈ tl ++ I0, p.1 ≠ t) (hA : Above tl I0) (F : Fr h₀ L h' m) (N : News h₀ L h' ((D1, o1) :: (t, tapeO c k' tkk nt) :: (tl2 ++ Three I oI C oC D oD (tl ++ I0))))
    (hoffD : ∀ p ∈ (t, tapeO c k' tkk nt) :: (tl2 ++ Three I oI C oC D oD (tl ++ I0)), p.1 ≠ D1) (hoff2 : ∀ p ∈ tl2 ++ Three I oI C oC D oD (tl ++ I0), p.1 ≠ t) (hA2 : Above tl2 (Three I oI C oC D oD (tl ++ I0))) (h1 : lo ≤ k') (h2 : k' ≤ hi) (hP : P y (((D1, o1) :: tl2) ++ tl)) :
    LCg.CompEnd h₀ L m s I oI C oC D oD (fun _ => True) (fun y n' => TapeJ t c nt I0 lo hi (P y) n') y { s with heap := h', toks := tk' } := by
  have o3 := off.mem
  have ot3 := o3 _ (.head _)
  refine LCg.CompEnd.intro F N ((t, tapeO c k' tkk nt) :: ((((D1, o1) :: tl2) ++ tl) ++ I0)) (fun p hp => ?_) (LCg.Off3.of fun p hp => ?_) trivial ⟨k', tkk, ((D1, o1) :: tl2) ++ tl, rfl, fun p hp => ?_, ?_, h1, h2, hP⟩
  · rcases List.mem_cons.mp hp with rfl | hp
    · exact .tail _ (.tail _ (inR (.head _)))
    rcases List.mem_cons.mp hp with rfl | hp
    · exact .tail _ (.tail _ (inR (.tail _ (.head _))))
    rcases List.mem_cons.mp hp with rfl | hp
    · exact .tail _ (.tail _ (inR (.tail _ (.tail _ (.head _)))))
    rcases List.mem_cons.mp hp with rfl | hp
    · exact .tail _ (.head _)
    rw [List.append_assoc] at hp
    rcases List.mem_cons.mp hp with rfl | hp
    · exact .head _
    rcases List.mem_append.mp hp with hp | hp
    · exact .tail _ (.tail _ (inL hp))
    · exact .tail _ (.tail _ (inR (.tail _ (.tail _ (.tail _ hp)))))
  · rcases List.mem_cons.mp hp with rfl | hp
    · exact ot3
    rw [List.append_assoc] at hp
    rcases List.mem_cons.mp hp with rfl | hp
    · exact ⟨Ne.symm (hoffD (I, oI) (.tail _ (inR (.head _)))), Ne.symm (hoffD (C, oC) (.tail _ (inR (.tail _ (.head _))))), Ne.symm (hoffD (D, oD) (.tail _ (inR (.tail _ (.tail _ (.head _))))))⟩
    rcases List.mem_append.mp hp with hp | hp
    · exact ⟨hA2 _ (.head _) p hp, hA2 _ (.tail _ (.head _)) p hp, hA2 _ (.tail _ (.tail _ (.head _))) p hp⟩
    · exact o3 p (.tail _ hp)
  · rw [List.append_assoc] at hp
    rcases List.mem_cons.mp hp with rfl | hp
    · exact Ne.symm (hoffD (t, _) (.head _))
    rcases List.mem_append.mp hp with hp | hp
    · exact hoff2 p (inL hp)
    · exact hoffT p hp
  · refine above_trans hA (above_cons (fun x hx => Ne.symm (hoffD x (.tail _ (inR (.tail _ (.tail _ (.tail _ hx))))))) (above_sub hA2 fun p hp => .tail _ (.tail _ (.tail _ hp))))
def CutQ (P : Shared → Prop) (f : Flow) (s : Shared) : Prop := f = .next ∧ P s
theorem execs_app (env : Env) : ∀ a b : List Stmt, execs (a ++ b) env = execs a env >>= fun f => match f with | .next => execs b env | f => pure f
  | [], b => by rw [List.nil_append, arm_execs_nil]; simp
  | st :: r, b => by
    rw [List.cons_append, arm_execs_cons, arm_execs_cons, bind_assoc]
    congr 1
    funext f
    cases f with
    | next => exact execs_app env r b
    | _ => simp
theorem execs_cut {M : Model} {A : Around} {env : Env} {E : Value → Shared → Prop} {Q : Flow → Shared → Prop} (P : Shared → Prop) (n : Nat) (l : List Stmt) (s : Shared)
    (h1 : wpAny M A (execs (l.take n) env) (CutQ P) E s) (h2 : ∀ s', P s' → wpAny M A (execs (l.drop n) env) Q E s') : wpAny M A (execs l env) Q E s := by
  rw [← List.take_append_drop n l, execs_app]
  refine wpAny_bind (wpAny_mono h1 (fun f s' hc => ?_) fun _ _ e => e)
  obtain ⟨rfl, hp⟩ := hc
  exact h2 s' hp
/-- the tape is laid -/
def St1 (h₀ : Heap) (L : Addr) (m : Str → Option Value) (s0 : Shared) (s' : Shared) : Prop :=
  ∃ h' tk' t c vs ns nt nc tk0 oR oS oT, s' = (⟨h', s0.gens, s0.drawn, tk', s0.os⟩ : Shared) ∧ Fr h₀ L h' m ∧ News h₀ L h' ((t, tapeO c 0 tk0 nt) :: (c, listOf (List.toArray vs) nc) :: (L + 1 + 1 + 1, oR) :: (L + 1 + 1, oS) :: (L + 1, oT) :: []) ∧
    oT.data = .cell (some (.ref t)) ∧ (∃ v, oR.data = .cell v) ∧ (∃ v, oS.data = .cell v) ∧ (∀ p ∈ (c, listOf (List.toArray vs) nc) :: (L + 1 + 1 + 1, oR) :: (L + 1 + 1, oS) :: (L + 1, oT) :: [], p.1 ≠ t) ∧ @LT.lt Nat _ c t ∧ @LT.lt Nat _ (L + 1 + 1 + 1) c ∧ IntsAre vs ns ∧ 0 < ns.length ∧ ns.length ≤ 40
theorem cut1 {M : Model} {A : Around} {env : Env} {E : Value → Shared → Prop} {Q : Flow → Shared → Prop} {h₀ : Heap} {L a1 a2 a3 : Addr} {oR oS oT : Obj} {m : Str → Option Value} {l : List Stmt} {s : Shared} (_ : Fr h₀ L s.heap m) (_ : News h₀ L s.heap [(a3, oR), (a2, oS), (a1, oT)])
    (h1 : wpAny M A (execs (l.take 1) env) (CutQ (St1 h₀ L m s)) E s) (h2 : ∀ s', St1 h₀ L m s s' → wpAny M A (execs (l.drop 1) env) Q E s') : wpAny M A (execs l env) Q E s := execs_cut _ 1 l s h1 h2
/-- way, fours and number are drawn -/
def St2 (h₀ : Heap) (L : Addr) (m : Str → Option Value) (s0 : Shared) (s' : Shared) : Prop :=
  ∃ h' tk' t c vs ns nt nc k tkk oR oS oT I way tw number tn FL fvs fss, s' = (⟨h', s0.gens, s0.drawn, tk', s0.os⟩ : Shared) ∧
    Fr h₀ L h' (fun y => if y = Str.ofString "number" then some (.int number tn) else if y = Str.ofString "fours" then some (.ref FL) else if y = Str.ofString "way" then some (.int way tw) else m y) ∧
    News h₀ L h' ((t, tapeO c k tkk nt) :: I) ∧ (∀ p ∈ I, p.1 ≠ t) ∧ (c, listOf (List.toArray vs) nc) ∈ I ∧ (L + 1 + 1 + 1, oR) ∈ I ∧ (L + 1 + 1, oS) ∈ I ∧ (L + 1, oT) ∈ I ∧
    oT.data = .cell (some (.ref t)) ∧ (∃ v, oR.data = .cell v) ∧ (∃ v, oS.data = .cell v) ∧ c ≠ t ∧ IntsAre vs ns ∧ 0 < ns.length ∧ ns.length ≤ 40 ∧ 0 ≤ k ∧ k ≤ 40 ∧ 0 ≤ way ∧ way < 5 ∧ 3 ≤ number ∧ number ≤ 5 ∧
    (FL, LCg.lst fvs) ∈ I ∧ AllR RowR I fvs fss ∧ fss.length ≤ 3
theorem cut2 {M : Model} {A : Around} {env : Env} {E : Value → Shared → Prop} {Q : Flow → Shared → Prop} {h₀ : Heap} {L : Addr} {m : Str → Option Value} {l : List Stmt} {s : Shared} (_ : Fr h₀ L s.heap m)
    (h1 : wpAny M A (execs (l.take 3) env) (CutQ (St2 h₀ L m s)) E s) (h2 : ∀ s', St2 h₀ L m s s' → wpAny M A (execs (l.drop 3) env) Q E s') : wpAny M A (execs l env) Q E s := execs_cut _ 3 l s h1 h2
end
local macro_rules | `(tactic| walk) => `(tactic| repeat' (first | ((fail_if_success (first | (with_reducible show wpAny _ _ (subscriptTail _ _ (Value.ref _) (Value.str _ _)) _ _ _) | (with_reducible show wpAny _ _ (call (Value.ref 312) _) _ _ _) | (with_reducible show wpAny _ _ (compareOp _ (Value.ref _) (Value.ref _)) _ _ _) | (with_reducible show EltEnd _ _ _ _ _ _ _ _ _ _) | (with_reducible show LCt.CompSrcT _ _ _ _ _ _ _ _ _ _ _ _ _ _ _) | (with_reducible show LCg.CompSrc _ _ _ _ _ _ _ _ _ _ _ _ _ _) | (with_reducible show LCg.CompEnd _ _ _ _ _ _ _ _ _ _ _ _ _ _) | (with_reducible show LCg.FinE _ _ _ _ _ _ _) | (with_reducible show LCg.FinA _ _ _ _ _ _ _ _) | (with_reducible show TurnEnd _ _ _ _ _ _ _ _ _) | (with_reducible show wpAny _ _ (pyIter _) _ _ _) | (with_reducible show wpAny _ _ (exec (Stmt.For _ _ _ _ _) _) _ _ _) | (with_reducible show wpAny _ _ (eval (Expr.ListComp _ _ _ _) _) _ _ _) | (with_reducible show wpAny _ _ (exec (Stmt.Assign _ (Expr.ListComp _ _ _ _) _) _) _ _ _))); (first | (k_unfold; (try dsimp only)) | (k_end; wrow_close) | walk1 | (dsimp only; walk1) | (leave1; walk_say "STEP leave1"; try dsimp only))) | fail "no step"))
local macro_rules | `(tactic| walk_at "call ref") => `(tactic| (k_here; (with_reducible show wpAny _ _ (call (Value.ref 514) [Value.ref _]) _ _ _); k_dflt (refine' Tell.use (four_any _ ?hm ?hc ?hct ?hv ?h1 ?h2 ?hk ?hk2) ?k1 ?k2 ?k3 ?k4 ?k5 ?kK ?kd ?ku ?_; (case k1 => k_asm); (case k2 => k_asm); (case k3 => k_asm); (case k4 => k_asm); (case k5 => k_asm); (case kK => first | exact rfl | assumption); (case hm => k_mem); (case hc => k_mem); (case hct => assumption); (case hv => assumption); (case h1 => assumption); (case h2 => assumption); (case hk => omega); (case hk2 => omega); (case kd => ktr_room); (case ku => ktr_units); intro r9 N9 h9 tk9 F9 M9 ho9; obtain ⟨f9, tk9', q9, hq9, eN9, lt9, lq9⟩ := ho9; subst eN9; (try dsimp only); (try k_fold))))
section
/-- a def entered from a frame with cells, whose body may catch what a callee raised -/
theorem code_defSX {prog : Program} {w : World} {A₀ A : Around} {s : Shared} {base h₀ : Heap} {L a : Addr} {m : Str → Option Value} {cn : Str} {cs : Scope} {ccd : Value} {cl : List (Str × Addr)} {news : Led} {K : Frag} {p : Program} {loose : List Str} {mean : ExcName → Option Value} {mg mb : Str → Option Value}
    {R : Result → Shared → Prop} {name qual : Str} {params : Arguments} {body : List Stmt} {scope : Scope} {dV kV doc pm cdv ct oc : Value} {an od : Option Addr} {osl : Array (Option Value)} {f : Addr} {args : Args} {binds : List (Str × Value)}
    (B : Below A₀ base [] h₀) (F : Fr h₀ L s.heap m) (X₀ : K.In h₀) (N : News h₀ L s.heap news) (T : Top p loose mean mg mb h₀) (hA : A.frames = some [envX cn cs L a ccd cl])
    (ho : K.lookup f = some ⟨oc, od, .func (fnOf name qual params body scope dV kV doc pm an cdv ct), osl⟩) (hcd : codeIn K cdv qual = true) (hroom : A.depth < recursionLimit)
    (hbind : BindsTo s (fnOf name qual params body scope dV kV doc pm an cdv ct) args binds) (hloc : ∀ y ∈ binds, scope.names.lookup y.1 = some .local)
    (h : ∀ g L' h₁, Fr h₀ L g m → Fr g L' h₁ (fun y => binds.reverse.lookup y) → News g L' h₁ news → Below A base [envX cn cs L a ccd cl] g → K.In g → Top p loose mean mg mb g → KtsDicts ([envX cn cs L a ccd cl].filterMap (·.frame)) g →
      wpAny (model prog w) (A.deeper (envOf qual scope L' f cdv)) (execs body (envOf qual scope L' f cdv))
        (fun fl s' => LeaveS0 ([envX cn cs L a ccd cl].filterMap (·.frame)) h₀ L m g R (match fl with | .ret v => v | _ => .none) s')
        (fun e s' => wpAny (model prog w) (A.deeper (envOf qual scope L' f cdv)) (leaving (envOf qual scope L' f cdv) e) (fun _ s'' => R (.error e) s'') (fun e' s'' => R (.error e') s'') s')
        { s with heap := h₁, toks := s.toks + binds.length })
    (hck : cs.kind = .function) (hco : scope.isCoroutine = false) (hgen : scope.isGenerator = false) (hk : scope.kind = .function)
    (hcell : ∀ x ∈ scope.names, x.2 ≠ .cell) : codeAny (model prog w) A (.call (.ref f) args) R s := by
  have X := X₀.keeps F.keep
  refine codeAny_call_def (fd := fnOf name qual params body scope dV kV doc pm an cdv ct) (body := body) (binds := binds) hroom (X _ _ ho) rfl (T.nolimit.keeps F.keep) (codeRec_of X hcd) rfl hbind hcell hloc (fun h₁ hns hk₁ => ?_) hco hgen hk
  obtain ⟨oL, es, ep, hLg, hLd, hN, hNs, st, B₂⟩ := kts_enter (A := { A with frames := some [envOf cn cs L a ccd] }) (cn := cn) (cs := cs) (a := a) (ccd := ccd) B F N rfl hck
  have B₃ : Below A base [envX cn cs L a ccd cl] (hideAll s.heap (news.map (·.1))) := ⟨hA, B₂.stays, B₂.frames⟩
  have onlyL : ∀ b, b ∈ [envX cn cs L a ccd cl].filterMap (·.frame) → b = L := fun b hb => by simpa using hb
  refine wpAny_mono (h _ s.heap.objs.size h₁ ⟨hN _ hLg, st, F.above⟩ ⟨hns, fun b o e => hk₁ b o (of_hideAll _ e), Nat.le_of_eq (hideAll_size _ _)⟩
    (fun p hp => ⟨hk₁ _ _ (N p hp).1, Nat.ne_of_lt (Heap.lt_size (N p hp).1), hideAll_none _ (List.mem_map_of_mem hp)⟩) B₃ (X₀.keeps st) (T.keeps st) (fun b hb => by
      rw [onlyL b hb]; exact ⟨oL, es, ep, hLg, hLd⟩)) (fun fl s' hl => ?_) fun _ _ y => y
  obtain ⟨g', L', m', news', T', F', N', k⟩ := hl
  have nL₀ : h₀.get? L = none := kts_self F
  obtain ⟨sl, hs⟩ := T'.up hLg
  have none₀ : ∀ b, g'.get? b = none → h₀.get? b = none := fun b hb => by
    cases q : h₀.get? b with
    | none => rfl
    | some o =>
      obtain ⟨sl', hs'⟩ := T'.up (st _ _ q)
      rw [hb] at hs'; cases hs'
  refine k ⟨hNs sl _ (F'.keep _ _ hs), fun b o e => F'.keep b o (T'.other b o (st b o e) (fun q => ?_)), F.above⟩ fun p hp => ⟨(N' p hp).1, fun q => ?_, none₀ _ (N' p hp).2.2⟩
  · rw [onlyL b q, nL₀] at e; cases e
  · have z := (N' p hp).2.2
    rw [q, hs] at z; cases z
theorem TellX.use {w : World} {f : Addr} {vs : List Value} {k : Nat} {N : Led} (C : TellX w f vs k N)
    {loose : List Str} {mean : ExcName → Option Value} {mg mb : Str → Option Value} {dp un : Nat} {gd : Option (List Code)} {cn : Str} {cs : Scope} {a : Addr} {ccd : Value} {cl : List (Str × Addr)} {outer : List Env} {A₀ : Around} {base h₀ : Heap} {L : Addr} {m : Str → Option Value} {s : Shared} {Q E : Value → Shared → Prop}
    (B : Below A₀ base outer h₀) (F : Fr h₀ L s.heap m) (X : (Mine.hd.heap_39 w.params).In h₀) (Nw : News h₀ L s.heap N) (T : Top Mine.hd.view_39 loose mean mg mb h₀) (hk : cs.kind = .function) (hd : dp + k < recursionLimit) (hu : un + 8 * k < cLine)
    (ex : ∀ g e t vs' N' h' tk', Fr h₀ L g m → (∀ p ∈ N, p ∈ N') → RaisedS base g (envX cn cs L a ccd cl :: outer) e (.ref 59) t vs' N' h' → g.UpToSlots h' → E (.ref e) { s with heap := h', toks := tk' }) :
    wpAny (model PySem.Challenge.rw_pb0480_01.row.prog w) (ktrTop dp un gd cn cs L a ccd cl outer) (call (.ref f) vs) Q E s :=
  C _ _ _ _ _ _ _ _ _ _ _ _ _ _ _ _ _ _ _ _ _ B F X Nw T hk hd hu ex
/-- what a call of f does from the law's own frame -/
def TellL (w : World) (f : Addr) (vs : List Value) (k : Nat) (N : Led) (Out : Value → Led → Prop) : Prop :=
  ∀ (loose : List Str) (mean : ExcName → Option Value) (mg mb : Str → Option Value) (dp un : Nat) (gd : Option (List Code)) (cn : Str) (cs : Scope) (a : Addr) (ccd : Value) (cl : List (Str × Addr)) (A₀ : Around) (base h₀ : Heap) (L : Addr) (m : Str → Option Value) (s : Shared) (Q E : Value → Shared → Prop),
    Below A₀ base [] h₀ → (Mine.hd.heap_39 w.params).In base → Top Mine.hd.view_39 loose mean mg mb base → Fr h₀ L s.heap m → (Mine.hd.heap_39 w.params).In h₀ → News h₀ L s.heap N → Top Mine.hd.view_39 loose mean mg mb h₀ → cs.kind = .function → dp + k < recursionLimit → un + 8 * k < cLine →
    (∀ r N' h' tk', Fr h₀ L h' m → News h₀ L h' N' → Out r N' → Q r { s with heap := h', toks := tk' }) →
    wpAny (model PySem.Challenge.rw_pb0480_01.row.prog w) (ktrTop dp un gd cn cs L a ccd cl []) (call (.ref f) vs) Q E s
local macro_rules | `(tactic| walk_at "call ref") => `(tactic| (k_here; (with_reducible show wpAny _ _ (call (Value.ref 472) _) _ _ _); k_dflt (refine' TellX.use ?hX ?k1 ?k2 ?k3 ?k4 ?k5 ?kK ?kd ?ku ?_; (case hX => assumption); (case k1 => k_asm); (case k2 => k_asm); (case k3 => k_asm); (case k4 => k_asm); (case k5 => k_asm); (case kK => first | exact rfl | assumption); (case kd => ktr_room); (case ku => ktr_units); intro g9 e9 t9 vs9 N9 h9 tk9 FG9 sub9 R9 U9; (try dsimp only); (try k_fold))))
set_option maxHeartbeats 8000000 in
theorem refused_tell (w : World) {sh rx fl : Addr} {N : Led} (hX : TellX w 472 [.ref sh, .ref rx, .ref fl] 40 N) :
    TellL w 526 [.ref sh, .ref rx, .ref fl] 60 N (fun r N' => r = .bool true ∧ N' = N) := by
  unfold TellL
  k_fill
  intro loose mean mg mb dp un gd cn cs a0 ccd cl A₀ base h₀ L m s Q E B XB TB F X Nw T hcs hd' hu hret
  refine wpAny_call ?_
  k_dflt (refine' code_defSX ?k1 ?k2 ?k3 ?k4 ?k5 ?kA ?k6 ?k7 ?k8 ?k9 ?kB ?_ ?cK ?c2 ?c3 ?c4 ?c5; (case kA => exact rfl); (case k2 => k_asm); (case k1 => k_asm); (case k3 => k_asm); (case k4 => k_asm); (case k5 => k_asm); (case k6 => k_is); (case k7 => k_is); (case k8 => ktr_room); (case k9 => first | exact binds_K (by k_in) rfl (by k_is) rfl rfl rfl | exact BindsTo.of_eq rfl); (case kB => exact locs rfl); (case cK => assumption); (case c2 => exact rfl); (case c3 => exact rfl); (case c4 => exact rfl); (case c5 => decide); k_whole; intro g' L' h' FG' F' N' B' X' T' D'; (try dsimp only); (try k_fold))
  walk
  rename (∀ p ∈ N, p ∈ _) => sub9
  rename_i kF kN Tc kX
  exact hret _ _ _ _ kF (newsSub kN sub9) ⟨rfl, rfl⟩
theorem TellL.use {w : World} {f : Addr} {vs : List Value} {k : Nat} {N : Led} {Out : Value → Led → Prop} (C : TellL w f vs k N Out)
    {loose : List Str} {mean : ExcName → Option Value} {mg mb : Str → Option Value} {dp un : Nat} {gd : Option (List Code)} {cn : Str} {cs : Scope} {a : Addr} {ccd : Value} {cl : List (Str × Addr)} {A₀ : Around} {h₀ : Heap} {L : Addr} {m : Str → Option Value} {s : Shared} {Q E : Value → Shared → Prop}
    (B : Below A₀ h₀ [] h₀) (F : Fr h₀ L s.heap m) (X : (Mine.hd.heap_39 w.params).In h₀) (Nw : News h₀ L s.heap N) (T : Top Mine.hd.view_39 loose mean mg mb h₀) (hk : cs.kind = .function) (hd : dp + k < recursionLimit) (hu : un + 8 * k < cLine)
    (ret : ∀ r N' h' tk', Fr h₀ L h' m → News h₀ L h' N' → Out r N' → Q r { s with heap := h', toks := tk' }) :
    wpAny (model PySem.Challenge.rw_pb0480_01.row.prog w) (ktrTop dp un gd cn cs L a ccd cl []) (call (.ref f) vs) Q E s :=
  C _ _ _ _ _ _ _ _ _ _ _ _ _ _ _ _ _ _ _ _ B X T F X Nw T hk hd hu ret
end
local macro_rules | `(tactic| walk_at "call ref") => `(tactic| (k_here; (with_reducible show wpAny _ _ (call (Value.ref 526) _) _ _ _); k_dflt (refine' TellL.use (refused_tell _ ?hX) ?k1 ?k2 ?k3 ?k4 ?k5 ?kK ?kd ?ku ?_; (case hX => assumption); (case k1 => k_asm); (case k2 => k_asm); (case k3 => k_asm); (case k4 => k_asm); (case k5 => k_asm); (case kK => first | exact rfl | assumption); (case kd => ktr_room); (case ku => ktr_units); intro r9 N9 h9 tk9 F9 M9 ho9; obtain ⟨er9, eN9⟩ := ho9; subst er9; subst eN9; (try dsimp only); (try k_fold))))
section
theorem news_drop3 {h₀ h : Heap} {L : Addr} {a b x : Addr × Obj} {r : Led} (N : News h₀ L h (a :: b :: x :: r)) : News h₀ L h (a :: b :: r) := newsSub N fun p hp => by
  rcases List.mem_cons.mp hp with rfl | hp
  · exact .head _
  rcases List.mem_cons.mp hp with rfl | hp
  · exact .tail _ (.head _)
  · exact .tail _ (.tail _ (.tail _ hp))
theorem news_drop4 {h₀ h : Heap} {L : Addr} {a b x y : Addr × Obj} {r : Led} (N : News h₀ L h (a :: b :: x :: y :: r)) : News h₀ L h (a :: b :: r) := newsSub N fun p hp => by
  rcases List.mem_cons.mp hp with rfl | hp
  · exact .head _
  rcases List.mem_cons.mp hp with rfl | hp
  · exact .tail _ (.head _)
  · exact .tail _ (.tail _ (.tail _ (.tail _ hp)))
theorem news_swap {h₀ h : Heap} {L : Addr} {a b : Addr × Obj} {X : Led} (N : News h₀ L h (a :: b :: X)) : News h₀ L h (b :: a :: X) := newsSub N fun p hp => by
  rcases List.mem_cons.mp hp with rfl | hp
  · exact .tail _ (.head _)
  rcases List.mem_cons.mp hp with rfl | hp
  · exact .head _
  · exact .tail _ (.tail _ hp)
theorem three_front {I C D : Addr} {oI oC oD : Obj} {q : Addr × Obj} {X : Led} {h₀ h : Heap} {L : Addr} (N : News h₀ L h (Three I oI C oC D oD (q :: X))) : News h₀ L h (q :: ([] ++ Three I oI C oC D oD X)) := newsSub N fun p hp => by
  rcases List.mem_cons.mp hp with rfl | hp
  · exact .tail _ (.tail _ (.tail _ (.head _)))
  rcases List.mem_cons.mp hp with rfl | hp
  · exact .head _
  rcases List.mem_cons.mp hp with rfl | hp
  · exact .tail _ (.head _)
  rcases List.mem_cons.mp hp with rfl | hp
  · exact .tail _ (.tail _ (.head _))
  · exact .tail _ (.tail _ (.tail _ (.tail _ hp)))
theorem three_off {I C D t : Addr} {oI oC oD : Obj} {X : Led} (o : t ≠ I ∧ t ≠ C ∧ t ≠ D) (h : ∀ p ∈ X, p.1 ≠ t) : ∀ p ∈ [] ++ Three I oI C oC D oD X, p.1 ≠ t := fun p hp => by
  rcases List.mem_cons.mp hp with rfl | hp
  · exact Ne.symm o.1
  rcases List.mem_cons.mp hp with rfl | hp
  · exact Ne.symm o.2.1
  rcases List.mem_cons.mp hp with rfl | hp
  · exact Ne.symm o.2.2
  · exact h p hp
theorem made_two {prog : Program} {w : World} {h₀ : Heap} {L d : Addr} {m : Str → Option Value} {s : Shared} {tl X : Led} {o : Obj} {Q : Value → Shared → Prop} {vs : List (Value × Value)} (F : Fr h₀ L s.heap m) (N : News h₀ L s.heap (tl ++ (d, o) :: X)) (hA : ∀ p ∈ tl, p.1 ≠ d) (hX : ∀ p ∈ X, p.1 ≠ d) (hd : o.IsDictOf (PySem.strKind prog w) []) (hk : allStrKeys vs = true) (hn : ((strPairs vs).map (·.1)).Nodup)
    (h : ∀ h' o', Fr h₀ L h' m → News h₀ L h' ((d, o') :: (tl ++ X)) → o'.IsDictOf (PySem.strKind prog w) (strPairs vs) → Q (.ref d) { s with heap := h', toks := s.toks + vs.length }) : KdnMade prog w (PySem.strKind prog w) d Q vs s :=
  made_mem F N (inR (.head _)) hd hk hn fun h' o' F' N' hD' => h h' o' F' (newsSub N' fun p hp => by
    rcases List.mem_cons.mp hp with rfl | hp
    · exact .head _
    rcases List.mem_append.mp hp with hp | hp
    · exact .tail _ (mem_rest (inL hp) (hA p hp))
    · exact .tail _ (mem_rest (inR (.tail _ hp)) (hX p hp))) hD'
theorem item_five {prog : Program} {w : World} {A : Around} {E : Value → Shared → Prop} {s : Shared} {h₀ : Heap} {L D : Addr} {news : Led} {v0 v1 v2 v3 v4 : Value} {c : Nat} {value slice : PySem.Expr} {k : Int} {u : Tok} {Q : Value → Shared → Prop}
    (N : News h₀ L s.heap news) (hm : (D, listOf [v0, v1, v2, v3, v4].toArray c) ∈ news) (h0 : 0 ≤ k) (h5 : k < 5) (h : ∀ v, [v0, v1, v2, v3, v4][k.toNat]? = some v → Q v s)
    (hs : subscripted slice false (.ref D) (.int k u) = operate [.ref D, .int k u] (getItem (.ref D) (.int k u)) := by with_unfolding_all rfl) :
    wpAny (model prog w) A (subscriptTail value slice (.ref D) (.int k u)) Q E s := by
  have hlt : k.toNat < [v0, v1, v2, v3, v4].length := by show k.toNat < 5; omega
  exact item_mem N hm h0 (by omega) (List.getElem?_eq_getElem hlt) (h _ (List.getElem?_eq_getElem hlt)) hs
def elderO (way : Int) : List OV := if way = 2 then [.ref 9 0, .dict [Str.ofString "Subtype"] [.name (Str.ofString "Link")]] else if way = 3 then [.ref 9 0] else []
/-- what stands through the law: the tape, the draws, the fours -/
structure LB (t c : Addr) (vs : List Value) (ns : List Int) (nc : Nat) (k way number : Int) (FL : Addr) (fvs : List Value) (fss : List (Four × List Four)) (I : Led) : Prop where
  off : ∀ p ∈ I, p.1 ≠ t
  hc : (c, listOf vs.toArray nc) ∈ I
  hct : c ≠ t
  hv : IntsAre vs ns
  n0 : 0 < ns.length
  n40 : ns.length ≤ 40
  k0 : 0 ≤ k
  k40 : k ≤ 40
  w0 : 0 ≤ way
  w5 : way < 5
  m3 : 3 ≤ number
  m5 : number ≤ 5
  hFL : (FL, LCg.lst fvs) ∈ I
  hfr : AllR RowR I fvs fss
  hfl : fss.length ≤ 3
theorem LB.mono {t c : Addr} {vs : List Value} {ns : List Int} {nc : Nat} {k way number : Int} {FL : Addr} {fvs : List Value} {fss : List (Four × List Four)} {I I' : Led} (b : LB t c vs ns nc k way number FL fvs fss I) (s : ∀ p ∈ I, p ∈ I') (o : ∀ p ∈ I', p.1 ≠ t) : LB t c vs ns nc k way number FL fvs fss I' :=
  ⟨o, s _ b.hc, b.hct, b.hv, b.n0, b.n40, b.k0, b.k40, b.w0, b.w5, b.m3, b.m5, s _ b.hFL, AllR.monoR (fun _ _ h => RowR.mono s h) b.hfr, b.hfl⟩
def Cells3 (L t : Addr) (oR oS oT : Obj) (I : Led) : Prop :=
  (L + 1 + 1 + 1, oR) ∈ I ∧ (L + 1 + 1, oS) ∈ I ∧ (L + 1, oT) ∈ I ∧ oT.data = .cell (some (.ref t)) ∧ (∃ v, oR.data = .cell v) ∧ (∃ v, oS.data = .cell v)
theorem Cells3.mono {L t : Addr} {oR oS oT : Obj} {I I' : Led} (s : ∀ p ∈ I, p ∈ I') : Cells3 L t oR oS oT I → Cells3 L t oR oS oT I'
  | ⟨a, b, c, d, e, f⟩ => ⟨s _ a, s _ b, s _ c, d, e, f⟩
/-- the elder row is made -/
def St3 (w : World) (h₀ : Heap) (L : Addr) (m : Str → Option Value) (s0 : Shared) (s' : Shared) : Prop :=
  ∃ h' tk' t c vs ns nt nc k tkk oR oS oT I way tw number tn FL fvs fss EL els cE, s' = (⟨h', s0.gens, s0.drawn, tk', s0.os⟩ : Shared) ∧
    Fr h₀ L h' (fun y => if y = Str.ofString "elder" then some (.ref EL) else if y = Str.ofString "number" then some (.int number tn) else if y = Str.ofString "fours" then some (.ref FL) else if y = Str.ofString "way" then some (.int way tw) else m y) ∧
    News h₀ L h' ((t, tapeO c k tkk nt) :: I) ∧ LB t c vs ns nc k way number FL fvs fss I ∧ Cells3 L t oR oS oT I ∧ (EL, listOf (List.toArray els) cE) ∈ I ∧ OvAll w I els (elderO way)
theorem cut3 (w : World) {M : Model} {A : Around} {env : Env} {E : Value → Shared → Prop} {Q : Flow → Shared → Prop} {h₀ : Heap} {L FL : Addr} {number way : Int} {tn tw : Tok} {m : Str → Option Value} {l : List Stmt} {s : Shared} (_ : Fr h₀ L s.heap (fun y => if y = Str.ofString "number" then some (.int number tn) else if y = Str.ofString "fours" then some (.ref FL) else if y = Str.ofString "way" then some (.int way tw) else m y))
    (h1 : wpAny M A (execs (l.take 1) env) (CutQ (St3 w h₀ L m s)) E s) (h2 : ∀ s', St3 w h₀ L m s s' → wpAny M A (execs (l.drop 1) env) Q E s') : wpAny M A (execs l env) Q E s := execs_cut _ 1 l s h1 h2
def annO (way : Int) : OV := if way = 3 then .ref 1 0 else if way = 4 then .int 5 else .arr (elderO way)
def headO (way : Int) : OV := if way = 0 then .dict [Str.ofString "Rotate", Str.ofString "Type"] [.int 90, .name (Str.ofString "Page")] else .dict [Str.ofString "Annots", Str.ofString "Rotate", Str.ofString "Type"] [annO way, .int 90, .name (Str.ofString "Page")]
def AnnC (w : World) (way : Int) (v : Option Value) (EL : Addr) (I : Led) : Prop :=
  (way = 0 ∧ v = none) ∨ ((way = 1 ∨ way = 2) ∧ v = some (.ref EL)) ∨ (way = 3 ∧ ∃ u, v = some u ∧ OvAt w I u (.ref 1 0)) ∨ (way = 4 ∧ ∃ t, v = some (.int 5 t))
theorem AnnC.mono {w : World} {way : Int} {v : Option Value} {EL : Addr} {I I' : Led} (s : ∀ p ∈ I, p ∈ I') : AnnC w way v EL I → AnnC w way v EL I'
  | .inl h => .inl h
  | .inr (.inl h) => .inr (.inl h)
  | .inr (.inr (.inl ⟨a, u, b, c⟩)) => .inr (.inr (.inl ⟨a, u, b, c.mono s⟩))
  | .inr (.inr (.inr h)) => .inr (.inr (.inr h))
/-- its rows -/
def HdC (w : World) (hkvs : List (Str × Value)) (I : Led) : Prop :=
  ∃ ty tr, OvAt w I ty (.name (Str.ofString "Page")) ∧ (hkvs = [(Str.ofString "Type", ty), (Str.ofString "Rotate", .int 90 tr)] ∨ ∃ u, hkvs = [(Str.ofString "Type", ty), (Str.ofString "Rotate", .int 90 tr), (Str.ofString "Annots", u)])
theorem HdC.mono {w : World} {hkvs : List (Str × Value)} {I I' : Led} (s : ∀ p ∈ I, p ∈ I') : HdC w hkvs I → HdC w hkvs I'
  | ⟨ty, tr, a, b⟩ => ⟨ty, tr, a.mono s, b⟩
/-- a page's dict -/
def HeadAt (w : World) (way : Int) (hd : Addr) (oh : Obj) (hkvs : List (Str × Value)) (EL : Addr) (I : Led) : Prop :=
  (hd, oh) ∈ I ∧ oh.IsDictOf (SK w) hkvs ∧ (hd == sysModules) = false ∧ hkvs.length ≤ 3 ∧ (∃ tr, valueAt hkvs (Str.ofString "Rotate") = some (.int 90 tr)) ∧ AnnC w way (valueAt hkvs (Str.ofString "Annots")) EL I ∧ OvAt w I (.ref hd) (headO way) ∧ HdC w hkvs I
theorem HeadAt.mono {w : World} {way : Int} {hd : Addr} {oh : Obj} {hkvs : List (Str × Value)} {EL : Addr} {I I' : Led} (s : ∀ p ∈ I, p ∈ I') : HeadAt w way hd oh hkvs EL I → HeadAt w way hd oh hkvs EL I'
  | ⟨a, b, c, d, e, f, g, i⟩ => ⟨s _ a, b, c, d, e, f.mono s, g.mono s, i.mono s⟩
/-- the page's dict is made -/
def St4 (w : World) (h₀ : Heap) (L : Addr) (m : Str → Option Value) (s0 : Shared) (s' : Shared) : Prop :=
  ∃ h' tk' t c vs ns nt nc k tkk oR oS oT I way tw number tn FL fvs fss EL els cE hd oh hkvs, s' = (⟨h', s0.gens, s0.drawn, tk', s0.os⟩ : Shared) ∧
    Fr h₀ L h' (fun y => if y = Str.ofString "head" then some (.ref hd) else if y = Str.ofString "elder" then some (.ref EL) else if y = Str.ofString "number" then some (.int number tn) else if y = Str.ofString "fours" then some (.ref FL) else if y = Str.ofString "way" then some (.int way tw) else m y) ∧
    News h₀ L h' ((t, tapeO c k tkk nt) :: I) ∧ LB t c vs ns nc k way number FL fvs fss I ∧ Cells3 L t oR oS oT I ∧ (EL, listOf (List.toArray els) cE) ∈ I ∧ OvAll w I els (elderO way) ∧ HeadAt w way hd oh hkvs EL I
theorem cut4 (w : World) {M : Model} {A : Around} {env : Env} {E : Value → Shared → Prop} {Q : Flow → Shared → Prop} {h₀ : Heap} {L FL EL : Addr} {number way : Int} {tn tw : Tok} {m : Str → Option Value} {l : List Stmt} {s : Shared} (_ : Fr h₀ L s.heap (fun y => if y = Str.ofString "elder" then some (.ref EL) else if y = Str.ofString "number" then some (.int number tn) else if y = Str.ofString "fours" then some (.ref FL) else if y = Str.ofString "way" then some (.int way tw) else m y))
    (h1 : wpAny M A (execs (l.take 2) env) (CutQ (St4 w h₀ L m s)) E s) (h2 : ∀ s', St4 w h₀ L m s s' → wpAny M A (execs (l.drop 2) env) Q E s') : wpAny M A (execs l env) Q E s := execs_cut _ 2 l s h1 h2
theorem head_news0 {h₀ h : Heap} {L d t : Addr} {o0 o6 ot : Obj} {tlN I : Led} (N : News h₀ L h ((d, o6) :: (tlN ++ (t, ot) :: I))) (aN : Above tlN ((d, o0) :: (t, ot) :: I)) (l : (@LT.lt Nat _ t d) ∧ AllLt d I) (hI : ∀ p ∈ I, p.1 ≠ t) :
    ∃ I', News h₀ L h ((t, ot) :: I') ∧ (∀ p ∈ I', p.1 ≠ t) ∧ (∀ p ∈ I, p ∈ I') ∧ (∀ p ∈ tlN, p ∈ I') ∧ (d, o6) ∈ I' := by
  refine ⟨(d, o6) :: (tlN ++ I), newsSub N fun p hp => ?_, fun p hp => ?_, fun p hp => .tail _ (inR hp), fun p hp => .tail _ (inL hp), .head _⟩
  · rcases List.mem_cons.mp hp with rfl | hp
    · exact .tail _ (inR (.head _))
    rcases List.mem_cons.mp hp with rfl | hp
    · exact .head _
    rcases List.mem_append.mp hp with hp | hp
    · exact .tail _ (inL hp)
    · exact .tail _ (inR (.tail _ hp))
  · rcases List.mem_cons.mp hp with rfl | hp
    · exact Ne.symm (Nat.ne_of_lt l.1)
    rcases List.mem_append.mp hp with hp | hp
    · exact aN _ (.tail _ (.head _)) p hp
    · exact hI p hp
theorem head_news {h₀ h : Heap} {L d t : Addr} {o0 o o6 ot : Obj} {q : Addr × Obj} {tlR tlN I : Led} (N : News h₀ L h ((d, o6) :: rest d (q :: (tlR ++ (d, o) :: (tlN ++ (t, ot) :: I))))) (aR : Above tlR ((d, o) :: (tlN ++ (t, ot) :: I))) (aN : Above tlN ((d, o0) :: (t, ot) :: I)) (l : (@LT.lt Nat _ t d) ∧ AllLt d I) (hI : ∀ p ∈ I, p.1 ≠ t) :
    ∃ I', News h₀ L h ((t, ot) :: I') ∧ (∀ p ∈ I', p.1 ≠ t) ∧ (∀ p ∈ I, p ∈ I') ∧ (∀ p ∈ tlR, p ∈ I') ∧ (∀ p ∈ tlN, p ∈ I') ∧ (d, o6) ∈ I' := by
  refine ⟨(d, o6) :: ((tlR ++ tlN) ++ I), newsSub N fun p hp => ?_, fun p hp => ?_, fun p hp => .tail _ (inR hp), fun p hp => .tail _ (inL (inL hp)), fun p hp => .tail _ (inL (inR hp)), .head _⟩
  · rcases List.mem_cons.mp hp with rfl | hp
    · exact .tail _ (mem_rest (.tail _ (inR (.tail _ (inR (.head _))))) (Nat.ne_of_lt l.1))
    rcases List.mem_cons.mp hp with rfl | hp
    · exact .head _
    rcases List.mem_append.mp hp with hp | hp
    · rcases List.mem_append.mp hp with hp | hp
      · exact .tail _ (mem_rest (.tail _ (inL hp)) (aR _ (.head _) p hp))
      · exact .tail _ (mem_rest (.tail _ (inR (.tail _ (inL hp)))) (aN _ (.head _) p hp))
    · exact .tail _ (mem_rest (.tail _ (inR (.tail _ (inR (.tail _ hp))))) (Nat.ne_of_lt (ktn_ltOf l.2 p hp)))
  · rcases List.mem_cons.mp hp with rfl | hp
    · exact Ne.symm (Nat.ne_of_lt l.1)
    rcases List.mem_append.mp hp with hp | hp
    · rcases List.mem_append.mp hp with hp | hp
      · exact aR _ (.tail _ (inR (.head _))) p hp
      · exact aN _ (.tail _ (.head _)) p hp
    · exact hI p hp
theorem nd_three {n : Int} (h1 : 3 ≤ n) (h2 : n ≤ 5) : ([1, n, 9] : List Int).Nodup := by
  obtain rfl | rfl | rfl : n = 3 ∨ n = 4 ∨ n = 5 := by omega
  all_goals decide
theorem made_five {prog : Program} {w : World} {h₀ : Heap} {L d : Addr} {m : Str → Option Value} {s : Shared} {a1 a2 a3 a4 a5 : Addr × Obj} {X : Led} {o : Obj} {Q : Value → Shared → Prop} {vs : List (Value × Value)} (F : Fr h₀ L s.heap m) (N : News h₀ L s.heap (a1 :: a2 :: a3 :: a4 :: a5 :: (d, o) :: X)) (e1 : a1.1 ≠ d) (e2 : a2.1 ≠ d) (e3 : a3.1 ≠ d) (e4 : a4.1 ≠ d) (e5 : a5.1 ≠ d) (hX : ∀ p ∈ X, p.1 ≠ d) (hd : o.IsDictOf (PySem.intKind prog w) []) (hk : allIntKeys vs = true) (hn : ((intKeyPairs vs).map (·.1)).Nodup)
    (h : ∀ h' o', Fr h₀ L h' m → News h₀ L h' ((d, o') :: a1 :: a2 :: a3 :: a4 :: a5 :: X) → o'.IsDictOf (PySem.intKind prog w) (intKeyPairs vs) → Q (.ref d) { s with heap := h', toks := s.toks + vs.length }) : KdnMade prog w (PySem.intKind prog w) d Q vs s :=
  kdn_made_int F (newsFront N (.tail _ (.tail _ (.tail _ (.tail _ (.tail _ (.head _))))))) (.head rest_ne) hd hk hn fun h' o' F' N' hD' => h h' o' F' (newsSub N' fun p hp => by
    rcases List.mem_cons.mp hp with rfl | hp
    · exact .head _
    refine .tail _ (mem_rest ?_ ?_)
    · rcases List.mem_cons.mp hp with rfl | hp
      · exact .head _
      rcases List.mem_cons.mp hp with rfl | hp
      · exact .tail _ (.head _)
      rcases List.mem_cons.mp hp with rfl | hp
      · exact .tail _ (.tail _ (.head _))
      rcases List.mem_cons.mp hp with rfl | hp
      · exact .tail _ (.tail _ (.tail _ (.head _)))
      rcases List.mem_cons.mp hp with rfl | hp
      · exact .tail _ (.tail _ (.tail _ (.tail _ (.head _))))
      exact .tail _ (.tail _ (.tail _ (.tail _ (.tail _ (.tail _ hp)))))
    · rcases List.mem_cons.mp hp with rfl | hp
      · exact e1
      rcases List.mem_cons.mp hp with rfl | hp
      · exact e2
      rcases List.mem_cons.mp hp with rfl | hp
      · exact e3
      rcases List.mem_cons.mp hp with rfl | hp
      · exact e4
      rcases List.mem_cons.mp hp with rfl | hp
      · exact e5
      exact hX p hp) hD'
/-- a name that lies in a cell is bound -/
theorem storeC {M : Model} {A : Around} {E : Value → Shared → Prop} {s : Shared} {h₀ : Heap} {L c : Addr} {m : Str → Option Value} {env : Env} {x : Str} {v : Value} {Q : Unit → Shared → Prop} {news : Led} {o : Obj} (F : Fr h₀ L s.heap m) (N : News h₀ L s.heap news) (hc : env.cells.lookup x = some c) (hm : (c, o) ∈ news) (hd : ∃ v₀, o.data = .cell v₀)
    (h : ∀ h' o', Fr h₀ L h' m → News h₀ L h' ((c, o') :: rest c news) → o'.data = .cell (some v) → Q () { s with heap := h' })
    (hk : env.scope.kind = .function) (hx : env.kindOf x = some .cell) : wpAny M A (storeName env x v) Q E s := by
  obtain ⟨v₀, hd⟩ := hd
  have hmem := N (c, o) hm
  refine wpAny_storeName_cell hk hx hc ⟨o, hmem.1, hd⟩ fun h' hv hs => ?_
  obtain ⟨o', ho', hd'⟩ := hv
  refine h h' o' (F.change hs hmem.2.1 hmem.2.2) ?_ hd'
  exact (show News h₀ L s.heap ([] ++ (c, o) :: rest c news) from newsFront N hm).setIn (fun _ h => by cases h) rest_ne hs ho'
/-- not a cell -/
def NC (o : Obj) : Prop := ∀ v, o.data ≠ .cell v
theorem ncTup {vs : List Value} {c : Nat} : NC (tupO vs c) := fun _ h => by cases h
theorem ncLst {vs : Array Value} {c : Nat} : NC (listOf vs c) := fun _ h => by cases h
theorem ncLst' {vs : List Value} : NC (LCg.lst vs) := fun _ h => by cases h
theorem ncDict {es : List DictEntry} {c : Nat} : NC (dictOf es c) := fun _ h => by cases h
theorem ncInst {f d : Addr} : NC (instObj f d) := fun _ h => by cases h
def Keeps (N N' : Led) : Prop := ∀ p ∈ N, NC p.2 → p ∈ N'
theorem DecAt.drop {N N' : Led} {v : Value} {n : Int} (s : Keeps N N') : DecAt N v n → DecAt N' v n
  | ⟨x, dx, t1, t2, u1, u2, g1, g2, e, a, b⟩ => ⟨x, dx, t1, t2, u1, u2, g1, g2, e, s _ a ncInst, s _ b ncDict⟩
mutual
theorem OvAt.drop {w : World} {N N' : Led} (s : Keeps N N') : ∀ {v : Value} {o : OV}, OvAt w N v o → OvAt w N' v o
  | _, _, .int n t => .int n t
  | _, _, .real h => .real (h.drop s)
  | _, _, .name h1 h2 => .name (s _ h1 ncInst) (s _ h2 ncDict)
  | _, _, .ref h1 h2 => .ref (s _ h1 ncInst) (s _ h2 ncDict)
  | _, _, .arr h r => .arr (s _ h ncLst) (OvAll.drop s r)
  | _, _, .dict lo h a b c d e f r => .dict lo (s _ h ncDict) a b c d e f (OvAll.drop s r)
theorem OvAll.drop {w : World} {N N' : Led} (s : Keeps N N') : ∀ {vs : List Value} {os : List OV}, OvAll w N vs os → OvAll w N' vs os
  | _, _, .nil => .nil
  | _, _, .cons h r => .cons (OvAt.drop s h) (OvAll.drop s r)
end
theorem FourT.drop {N N' : Led} {v : Value} {f : Four} (s : Keeps N N') : FourT N v f → FourT N' v f
  | ⟨a, c, t1, t2, t3, t4, e, h⟩ => ⟨a, c, t1, t2, t3, t4, e, s _ h ncTup⟩
theorem RowR.drop {N N' : Led} {v : Value} {q : Four × List Four} (s : Keeps N N') : RowR N v q → RowR N' v q
  | ⟨a, vs, e, h, r, l⟩ => ⟨a, vs, e, s _ h ncLst', AllR.monoR (fun _ _ h => FourT.drop s h) r, l⟩
theorem LB.drop {t c : Addr} {vs : List Value} {ns : List Int} {nc : Nat} {k way number : Int} {FL : Addr} {fvs : List Value} {fss : List (Four × List Four)} {I I' : Led} (b : LB t c vs ns nc k way number FL fvs fss I) (s : Keeps I I') (o : ∀ p ∈ I', p.1 ≠ t) : LB t c vs ns nc k way number FL fvs fss I' :=
  ⟨o, s _ b.hc ncLst, b.hct, b.hv, b.n0, b.n40, b.k0, b.k40, b.w0, b.w5, b.m3, b.m5, s _ b.hFL ncLst', AllR.monoR (fun _ _ h => RowR.drop s h) b.hfr, b.hfl⟩
theorem AnnC.drop {w : World} {way : Int} {v : Option Value} {EL : Addr} {I I' : Led} (s : Keeps I I') : AnnC w way v EL I → AnnC w way v EL I'
  | .inl h => .inl h
  | .inr (.inl h) => .inr (.inl h)
  | .inr (.inr (.inl ⟨a, u, b, c⟩)) => .inr (.inr (.inl ⟨a, u, b, c.drop s⟩))
  | .inr (.inr (.inr h)) => .inr (.inr (.inr h))
theorem HeadAt.drop {w : World} {way : Int} {hd : Addr} {oh : Obj} {hkvs : List (Str × Value)} {EL : Addr} {I I' : Led} (s : Keeps I I') (h : HeadAt w way hd oh hkvs EL I) : HeadAt w way hd oh hkvs EL I' := by
  obtain ⟨a, b, c, d, e, f, g, ty, tr, i, j⟩ := h
  obtain ⟨es, cc, rfl⟩ := isDict_lit b
  exact ⟨s _ a ncDict, b, c, d, e, f.drop s, g.drop s, ty, tr, i.drop s, j⟩
/-- what lies where -/
structure Offs (L t tb : Addr) (J : Led) : Prop where
  bt : tb ≠ t
  rt : L + 1 + 1 + 1 ≠ t
  st : L + 1 + 1 ≠ t
  rb : L + 1 + 1 + 1 ≠ tb
  sb : L + 1 + 1 ≠ tb
  jt : ∀ p ∈ J, p.1 ≠ t
  jb : ∀ p ∈ J, p.1 ≠ tb
  jr : ∀ p ∈ J, p.1 ≠ L + 1 + 1 + 1
  js : ∀ p ∈ J, p.1 ≠ L + 1 + 1
theorem shelf_news {h₀ h : Heap} {L t tb : Addr} {ot oB oR oS oS6 : Obj} {I K Y : Led} (N4 : ∀ (a : Addr) o o', (a, o) ∈ I → (a, o') ∈ I → o = o') (N6 : News h₀ L h ((L + 1 + 1, oS6) :: rest (L + 1 + 1) Y)) (sK : ∀ p ∈ K, p ∈ Y) (hK : ∀ p ∈ K, p.1 ≠ t ∧ p.1 ≠ tb ∧ ∀ q ∈ I, p.1 ≠ q.1) (ht : (t, ot) ∈ Y) (hb : (tb, oB) ∈ Y) (sI : ∀ p ∈ I, p ∈ Y) (hI : ∀ p ∈ I, p.1 ≠ t) (hIb : ∀ p ∈ I, p.1 ≠ tb) (bt : tb ≠ t)
    (h3 : (L + 1 + 1 + 1, oR) ∈ I) (h2 : (L + 1 + 1, oS) ∈ I) (d3 : ∃ v, oR.data = .cell v) (d2 : ∃ v, oS.data = .cell v) :
    ∃ J, News h₀ L h ((t, ot) :: (tb, oB) :: (L + 1 + 1 + 1, oR) :: (L + 1 + 1, oS6) :: J) ∧ Offs L t tb J ∧ (∀ p ∈ I, p.1 ≠ L + 1 + 1 → p.1 ≠ L + 1 + 1 + 1 → p ∈ J) ∧ Keeps I J ∧ ∀ p ∈ K, p ∈ J := by
  have hin : ∀ p ∈ I, p.1 ≠ L + 1 + 1 → p.1 ≠ L + 1 + 1 + 1 → p ∈ K ++ rest (L + 1 + 1 + 1) (rest (L + 1 + 1) I) := fun p hp a b => inR (mem_rest (mem_rest hp a) b)
  refine ⟨K ++ rest (L + 1 + 1 + 1) (rest (L + 1 + 1) I), newsSub N6 fun p hp => ?_, ⟨bt, hI _ h3, hI _ h2, hIb _ h3, hIb _ h2, fun p hp => ?_, fun p hp => ?_, fun p hp => ?_, fun p hp => ?_⟩, hin, fun p hp nc => ?_, fun p hp => inL hp⟩
  · rcases List.mem_cons.mp hp with rfl | hp
    · exact .tail _ (mem_rest ht (Ne.symm (hI _ h2)))
    rcases List.mem_cons.mp hp with rfl | hp
    · exact .tail _ (mem_rest hb (Ne.symm (hIb _ h2)))
    rcases List.mem_cons.mp hp with rfl | hp
    · exact .tail _ (mem_rest (sI _ h3) (Nat.succ_ne_self _))
    rcases List.mem_cons.mp hp with rfl | hp
    · exact .head _
    rcases List.mem_append.mp hp with hp | hp
    · exact .tail _ (mem_rest (sK _ hp) ((hK _ hp).2.2 _ h2))
    · have hp2 := (List.mem_filter.mp hp).1
      exact .tail _ (mem_rest (sI _ (List.mem_filter.mp hp2).1) (rest_ne _ hp2))
  · rcases List.mem_append.mp hp with hp | hp
    · exact (hK _ hp).1
    · exact hI _ (List.mem_filter.mp (List.mem_filter.mp hp).1).1
  · rcases List.mem_append.mp hp with hp | hp
    · exact (hK _ hp).2.1
    · exact hIb _ (List.mem_filter.mp (List.mem_filter.mp hp).1).1
  · rcases List.mem_append.mp hp with hp | hp
    · exact (hK _ hp).2.2 _ h3
    · exact rest_ne _ hp
  · rcases List.mem_append.mp hp with hp | hp
    · exact (hK _ hp).2.2 _ h2
    · exact rest_ne _ (List.mem_filter.mp hp).1
  · refine hin p hp (fun e => ?_) fun e => ?_
    · obtain ⟨v, d2⟩ := d2
      have := N4 _ _ _ (show (L + 1 + 1, p.2) ∈ I from e ▸ hp) h2
      exact nc v (this ▸ d2)
    · obtain ⟨v, d3⟩ := d3
      have := N4 _ _ _ (show (L + 1 + 1 + 1, p.2) ∈ I from e ▸ hp) h3
      exact nc v (this ▸ d3)
theorem shelf_news7 {h₀ h : Heap} {L t tb : Addr} {ot oB oR oS oS6 : Obj} {I tl : Led} {r a1 a2 a3 a4 a5 : Addr × Obj} (N4 : ∀ (a : Addr) o o', (a, o) ∈ I → (a, o') ∈ I → o = o') (N6 : News h₀ L h ((L + 1 + 1, oS6) :: rest (L + 1 + 1) (tl ++ r :: (tb, oB) :: a1 :: a2 :: a3 :: a4 :: a5 :: (t, ot) :: I))) (hA : Above tl (r :: (tb, oB) :: a1 :: a2 :: a3 :: a4 :: a5 :: (t, ot) :: I))
    (kr : (@LT.lt Nat _ t r.1) ∧ (@LT.lt Nat _ tb r.1) ∧ AllLt r.1 I) (k1 : (@LT.lt Nat _ t a1.1) ∧ (@LT.lt Nat _ tb a1.1) ∧ AllLt a1.1 I) (k2 : (@LT.lt Nat _ t a2.1) ∧ (@LT.lt Nat _ tb a2.1) ∧ AllLt a2.1 I) (k3 : (@LT.lt Nat _ t a3.1) ∧ (@LT.lt Nat _ tb a3.1) ∧ AllLt a3.1 I) (k4 : (@LT.lt Nat _ t a4.1) ∧ (@LT.lt Nat _ tb a4.1) ∧ AllLt a4.1 I) (k5 : (@LT.lt Nat _ t a5.1) ∧ (@LT.lt Nat _ tb a5.1) ∧ AllLt a5.1 I)
    (hI : ∀ p ∈ I, p.1 ≠ t) (lb : (@LT.lt Nat _ t tb) ∧ AllLt tb I) (h3 : (L + 1 + 1 + 1, oR) ∈ I) (h2 : (L + 1 + 1, oS) ∈ I) (d3 : ∃ v, oR.data = .cell v) (d2 : ∃ v, oS.data = .cell v) :
    ∃ J, News h₀ L h ((t, ot) :: (tb, oB) :: (L + 1 + 1 + 1, oR) :: (L + 1 + 1, oS6) :: J) ∧ Offs L t tb J ∧ (∀ p ∈ I, p.1 ≠ L + 1 + 1 → p.1 ≠ L + 1 + 1 + 1 → p ∈ J) ∧ Keeps I J ∧ (∀ p ∈ tl, p ∈ J) ∧ r ∈ J ∧ a1 ∈ J ∧ a2 ∈ J ∧ a3 ∈ J ∧ a4 ∈ J ∧ a5 ∈ J := by
  have q : ∀ {a : Addr × Obj}, ((@LT.lt Nat _ t a.1) ∧ (@LT.lt Nat _ tb a.1) ∧ AllLt a.1 I) → a.1 ≠ t ∧ a.1 ≠ tb ∧ ∀ q ∈ I, a.1 ≠ q.1 := fun h => ⟨Nat.ne_of_gt h.1, Nat.ne_of_gt h.2.1, fun q hq => Nat.ne_of_gt (ktn_ltOf h.2.2 q hq)⟩
  have mt : ∀ {p}, p ∈ (t, ot) :: I → p ∈ r :: (tb, oB) :: a1 :: a2 :: a3 :: a4 :: a5 :: (t, ot) :: I := fun h => .tail _ (.tail _ (.tail _ (.tail _ (.tail _ (.tail _ (.tail _ h))))))
  obtain ⟨J, a, b, c, d, e⟩ := shelf_news (K := tl ++ [r, a1, a2, a3, a4, a5]) N4 N6 (fun p hp => by
    rcases List.mem_append.mp hp with hp | hp
    · exact inL hp
    · refine inR ?_
      simp only [List.mem_cons, List.not_mem_nil, or_false] at hp ⊢
      rcases hp with rfl | rfl | rfl | rfl | rfl | rfl <;> simp) (fun p hp => by
    rcases List.mem_append.mp hp with hp | hp
    · exact ⟨hA _ (mt (.head _)) p hp, hA _ (.tail _ (.head _)) p hp, fun q hq => hA _ (mt (.tail _ hq)) p hp⟩
    · simp only [List.mem_cons, List.not_mem_nil, or_false] at hp
      rcases hp with rfl | rfl | rfl | rfl | rfl | rfl
      · exact q kr
      · exact q k1
      · exact q k2
      · exact q k3
      · exact q k4
      · exact q k5) (inR (mt (.head _))) (inR (.tail _ (.head _))) (fun p hp => inR (mt (.tail _ hp))) hI (fun p hp => Nat.ne_of_lt (ktn_ltOf lb.2 p hp)) (Nat.ne_of_gt lb.1) h3 h2 d3 d2
  exact ⟨J, a, b, c, d, fun p hp => e p (inL hp), e _ (inR (by simp)), e _ (inR (by simp)), e _ (inR (by simp)), e _ (inR (by simp)), e _ (inR (by simp)), e _ (inR (by simp))⟩
def SH (w : World) (number : Int) (hd : Addr) (els : List Value) (sh tb : Addr) (ot : Obj) (kvs : List (Int × Value)) (I : Led) : Prop :=
  ∃ tr e1 e2 e9 E1 c1 d9, ShelfAt I sh tb tr ∧ kvs = [(1, e1), (number, e2), (9, e9)] ∧ ot.IsDictOf (IK w) kvs ∧ (tb == sysModules) = false ∧ EntAt I e1 0 (.ref E1) ∧ (E1, listOf els.toArray c1) ∈ I ∧ EntAt I e2 2 (.ref hd) ∧ EntAt I e9 0 d9 ∧ OvAt w I d9 (.dict [] []) ∧ OvAt w I (.ref tr) (.dict [] [])
theorem ShelfAt.monoS {N N' : Led} {sh tb tr : Addr} (s : ∀ p ∈ N, p ∈ N') (h : ShelfAt N sh tb tr) : ShelfAt N' sh tb tr := ShelfAt.mono s h
theorem SH.mono {w : World} {number : Int} {hd : Addr} {els : List Value} {sh tb : Addr} {ot : Obj} {kvs : List (Int × Value)} {I I' : Led} (s : ∀ p ∈ I, p ∈ I') : SH w number hd els sh tb ot kvs I → SH w number hd els sh tb ot kvs I'
  | ⟨tr, e1, e2, e9, E1, c1, d9, a, b, c, d, e, f, g, h, i, j⟩ => ⟨tr, e1, e2, e9, E1, c1, d9, ShelfAt.monoS s a, b, c, d, e.mono s, s _ f, g.mono s, h.mono s, i.mono s, j.mono s⟩
/-- the shelf is made -/
def St5 (w : World) (h₀ : Heap) (L : Addr) (m : Str → Option Value) (s0 : Shared) (s' : Shared) : Prop :=
  ∃ h' tk' t c vs ns nt nc k tkk oR oS oT J way tw number tn FL fvs fss EL els cE hd oh hkvs sh tb ot kvs, s' = (⟨h', s0.gens, s0.drawn, tk', s0.os⟩ : Shared) ∧
    Fr h₀ L h' (fun y => if y = Str.ofString "head" then some (.ref hd) else if y = Str.ofString "elder" then some (.ref EL) else if y = Str.ofString "number" then some (.int number tn) else if y = Str.ofString "fours" then some (.ref FL) else if y = Str.ofString "way" then some (.int way tw) else m y) ∧
    News h₀ L h' ((t, tapeO c k tkk nt) :: (tb, ot) :: (L + 1 + 1 + 1, oR) :: (L + 1 + 1, oS) :: J) ∧ Offs L t tb J ∧ (∃ v, oR.data = .cell v) ∧ oS.data = .cell (some (.ref sh)) ∧ (L + 1, oT) ∈ J ∧ oT.data = .cell (some (.ref t)) ∧
    LB t c vs ns nc k way number FL fvs fss J ∧ (EL, listOf (List.toArray els) cE) ∈ J ∧ OvAll w J els (elderO way) ∧ HeadAt w way hd oh hkvs EL J ∧ SH w number hd els sh tb ot kvs J
theorem cut5 (w : World) {M : Model} {A : Around} {env : Env} {E : Value → Shared → Prop} {Q : Flow → Shared → Prop} {h₀ : Heap} {L FL EL hd : Addr} {number way : Int} {tn tw : Tok} {m : Str → Option Value} {l : List Stmt} {s : Shared} (_ : Fr h₀ L s.heap (fun y => if y = Str.ofString "head" then some (.ref hd) else if y = Str.ofString "elder" then some (.ref EL) else if y = Str.ofString "number" then some (.int number tn) else if y = Str.ofString "fours" then some (.ref FL) else if y = Str.ofString "way" then some (.int way tw) else m y))
    (h1 : wpAny M A (execs (l.take 1) env) (CutQ (St5 w h₀ L m s)) E s) (h2 : ∀ s', St5 w h₀ L m s s' → wpAny M A (execs (l.drop 1) env) Q E s') : wpAny M A (execs l env) Q E s := execs_cut _ 1 l s h1 h2
theorem five_cases {way : Int} (h0 : 0 ≤ way) (h5 : way < 5) : way = 0 ∨ way = 1 ∨ way = 2 ∨ way = 3 ∨ way = 4 := by omega
theorem fine_elder {way : Int} (h0 : 0 ≤ way) (h5 : way < 5) : Fine (.arr (elderO way)) := by
  obtain rfl | rfl | rfl | rfl | rfl := five_cases h0 h5
  all_goals (constructor <;> simp [elderO, OV.wide, OV.wides, OV.ht, OV.hts])
theorem fine_head {way : Int} (h0 : 0 ≤ way) (h5 : way < 5) : Fine (headO way) := by
  obtain rfl | rfl | rfl | rfl | rfl := five_cases h0 h5
  all_goals (constructor <;> simp [headO, annO, elderO, OV.wide, OV.wides, OV.ht, OV.hts])
theorem fine_empty : Fine (.dict [] []) := by constructor <;> simp [OV.wide, OV.wides, OV.ht, OV.hts]
def rowsO (way number : Int) : List (Int × Int × OV) := [(1, 0, .arr (elderO way)), (number, 2, headO way), (9, 0, .dict [] [])]
theorem shold (w : World) {way number : Int} {hd : Addr} {oh : Obj} {hkvs : List (Str × Value)} {EL : Addr} {els : List Value} {sh tb : Addr} {ot : Obj} {kvs : List (Int × Value)} {J N : Led} (hSH : SH w number hd els sh tb ot kvs J) (hH : HeadAt w way hd oh hkvs EL J) (hels : OvAll w J els (elderO way)) (h0 : 0 ≤ way) (h5 : way < 5) (m3 : 3 ≤ number) (m5 : number ≤ 5) (s : ∀ p ∈ J, p ∈ N) (hm : (tb, ot) ∈ N) :
    Tell w 395 [.ref sh] 24 N (fun r N' => ∃ tl, DatIn tl r (shelfD (rowsO way number)) ∧ N' = tl ++ N ∧ Above tl N) := by
  obtain ⟨tr, e1, e2, e9, E1, c1, d9, hS, rfl, hD, lo, x1, xE, x2, x9, xo, xt⟩ := hSH
  refine stold_tell w (hS.mono s) hm hD lo (show 3 < 60 by decide) ?_ (nd_three m3 m5) (.cons (x1.mono s) (.arr (s _ xE) (OvAll.mono s hels)) (.cons (x2.mono s) (hH.2.2.2.2.2.2.1.mono s) (.cons (x9.mono s) (xo.mono s) .nil))) ?_ (xt.mono s)
  · simp; omega
  · intro q hq
    simp only [rowsO, List.mem_cons, List.not_mem_nil, or_false] at hq
    rcases hq with rfl | rfl | rfl
    · exact fine_elder h0 h5
    · exact fine_head h0 h5
    · exact fine_empty
end
local macro_rules | `(tactic| walk_at "subscriptTail") => `(tactic| (k_here; (with_reducible show wpAny _ _ (subscriptTail _ _ (Value.ref _) (Value.int _ _)) _ _ _); k_dflt (refine' item_five ?k1 ?k2 ?k3 ?k4 ?_ ?k7; (case k1 => k_asm); (case k2 => k_mem); (case k3 => assumption); (case k4 => assumption); (case k7 => with_unfolding_all rfl); k_whole; intro v9 hv9)))
local macro_rules | `(tactic| walk_at "call ref") => `(tactic| (k_here; (with_reducible show wpAny _ _ (call (Value.ref 398) [Value.ref _, Value.ref _]) _ _ _); k_dflt (refine' Tell.use (shelf_new _ _ _ _) ?k1 ?k2 ?k3 ?k4 ?k5 ?kK ?kd ?ku ?_; (case k1 => k_asm); (case k2 => k_asm); (case k3 => k_asm); (case k4 => k_asm); (case k5 => k_asm); (case kK => first | exact rfl | assumption); (case kd => ktr_room); (case ku => ktr_units); intro r9 N9 h9 tk9 F9 M9 ho9; obtain ⟨sh9, tl9, er9, hS9, eN9, hA9⟩ := ho9; subst er9; subst eN9; (try dsimp only); (try k_fold))))
local macro_rules | `(tactic| walk_at "eval Dict") => `(tactic| (k_here; (with_reducible show wpAny _ _ (eval (PySem.Expr.Dict [some _, some _, some _] _ _) _) _ _ _); k_dflt (refine' kdn_eval (knd := PySem.intKind _ _) ?F ?N ?b ?a ?l ?e ?n ?_; (case F => k_asm); (case N => k_asm); (case b => exact Top.nolimit (by k_asm)); (case a => rfl); (case l => rfl); (case e => exact List.cons_ne_nil _ _); (case n => exact Nat.le_of_ble_eq_true rfl); intro d' h' o' F' N' l1 lo' hd'; (try k_lt l1))))
local macro_rules | `(tactic| walk_at "call type:list") => `(tactic| (k_here; (with_reducible show wpAny _ _ (call (Value.type "list") [Value.ref _]) _ _ _); k_dflt (refine' list_mem ?F ?N ?a ?z ?_; (case F => k_asm); (case N => k_asm); (case a => k_mem); (case z => omega)); intro D' c' h' F' N' l1; (try k_lt l1); (try k_sweep)))
section
/-- made of new objects alone -/
def Fresh {δ : Type} (R : Led → Value → δ → Prop) (N0 n : Led) (v : Value) (d : δ) : Prop := ∃ tl, R tl v d ∧ (∀ p ∈ tl, p ∈ n) ∧ Above tl N0
theorem Fresh.mono {δ : Type} {R : Led → Value → δ → Prop} {N0 N N' : Led} {v : Value} {d : δ} (s : ∀ p ∈ N, p ∈ N') : Fresh R N0 N v d → Fresh R N0 N' v d
  | ⟨tl, h, k, a⟩ => ⟨tl, h, fun p hp => s p (k p hp), a⟩
theorem fresh_list {δ : Type} {R : Led → Value → δ → Prop} (mono : ∀ N N' v d, (∀ p ∈ N, p ∈ N') → R N v d → R N' v d) {N0 tl : Led} : ∀ {vs : List Value} {ds : List δ}, AllR (Fresh R N0) (tl ++ N0) vs ds → AllR R tl vs ds
  | _, _, .nil => .nil
  | _, _, .cons ⟨_, h, i, a⟩ r => .cons (mono _ _ _ _ (fun p hp => by
      rcases List.mem_append.mp (i p hp) with h | h
      · exact h
      · exact absurd rfl (a p h p hp)) h) (fresh_list mono r)
section
variable {δ : Type} {R : Led → Value → δ → Prop} {h₀ h' : Heap} {L D : Addr} {m : Str → Option Value} {s : Shared} {tk' : Nat} {N0 N3 n tl9 tl3 : Led} {o : Obj} {d : δ} {y : Value}
theorem EltEnd.ofF (F : Fr h₀ L h' m) (N : News h₀ L h' (tl9 ++ N3)) (hA : Above tl9 N3) (k : ∀ p ∈ N0, p ∈ N3) (r : R tl9 y d) : EltEnd (Fresh R N0) h₀ L m s N3 n d y { s with heap := h', toks := tk' } :=
  EltEnd.of F N hA ⟨tl9, r, fun _ hp => inL hp, above_sub hA k⟩
theorem above_mid (hA3 : Above tl3 N3) (hD : ∀ p ∈ tl3 ++ N3, p.1 ≠ D) (hA9 : Above tl9 ((D, o) :: (tl3 ++ N3))) : Above (tl9 ++ (D, o) :: tl3) N3 :=
  above_trans (tl := (D, o) :: tl3) (above_cons (fun q hq => Ne.symm (hD q (inR hq))) hA3) hA9
theorem EltEnd.twoF (F : Fr h₀ L h' m) (N : News h₀ L h' (tl9 ++ (D, o) :: (tl3 ++ N3))) (hA3 : Above tl3 N3) (hD : ∀ p ∈ tl3 ++ N3, p.1 ≠ D) (hA9 : Above tl9 ((D, o) :: (tl3 ++ N3))) (k : ∀ p ∈ N0, p ∈ N3) (r : R (tl9 ++ (D, o) :: tl3) y d) : EltEnd (Fresh R N0) h₀ L m s N3 n d y { s with heap := h', toks := tk' } :=
  EltEnd.of (tl := tl9 ++ (D, o) :: tl3) F (by rw [List.append_assoc]; exact N) (above_mid hA3 hD hA9) ⟨_, r, fun _ hp => inL hp, above_sub (above_mid hA3 hD hA9) k⟩
end
theorem three_in {I C D : Addr} {oI oC oD : Obj} {X : Led} : ∀ p ∈ X, p ∈ Three I oI C oC D oD X := fun _ hp => .tail _ (.tail _ (.tail _ hp))
theorem box_of_decs {N : Led} {ta : Addr} {c : Nat} {ys : List Value} {f : Four} (hm : (ta, tupO ys c) ∈ N) (h : AllR DecAt N ys [f.1, f.2.1, f.2.2.1, f.2.2.2]) : BoxAt N (.ref ta) f := by
  rcases h with _ | @⟨v1, _, _, _, d1, h⟩
  rcases h with _ | @⟨v2, _, _, _, d2, h⟩
  rcases h with _ | @⟨v3, _, _, _, d3, h⟩
  rcases h with _ | @⟨v4, _, _, _, d4, h⟩
  cases h
  exact ⟨ta, c, v1, v2, v3, v4, rfl, hm, d1, d2, d3, d4⟩
set_option maxHeartbeats 4000000 in
theorem find_fresh (w : World) (t t' : Tok) {bl : Addr} {bvs : List Value} {c : Nat} {fs : List Four} {N0 N : Led} (d1 : (bl, listOf bvs.toArray c) ∈ N0) (d2 : AllR BoxAt N0 bvs fs) (sb : ∀ p ∈ N0, p ∈ N) :
    Tell w 436 [.int 0 t, .int 0 t', .ref bl] 3 N (fun r N' => ∃ tl, FindAt (tl ++ N0) r fs ∧ N' = tl ++ N ∧ Above tl N) := by
  unfold Tell
  k_fill
  intro loose mean mg mb dp un gd cn cs a ccd cl outer A₀ base h₀ L m s Q E B F X N T hcs hd hu hret
  k_dflt (refine' call_cls ?k1 ?k2 ?k3 ?k4 ?k5 ?k6 ?_; (case k1 => k_asm); (case k2 => k_asm); (case k3 => k_asm); (case k4 => k_is); (case k5 => k_is); (case k6 => k_is); k_whole; intro x' d' h' F' N' l1 l2; (try k_lt l1); (try k_lt2 l2); (try k_sweep))
  k_dflt ktr_enter
  k_steps
  rename_i kF kN Tc kX
  exact hret _ _ _ _ kF kN ⟨[_, _], ⟨_, _, _, _, _, _, _, _, _, _, _, _, _, rfl, .head _, .tail _ (.head _), .tail _ (.tail _ d1), allBox (fun p hp => .tail _ (.tail _ hp)) d2⟩, rfl, above_two (allLt_of l1) l2⟩
section
variable {K : Type} [DecidableEq K]
theorem valueAt_cons (a : K) (b : Value) (r : List (K × Value)) (k : K) : valueAt ((a, b) :: r) k = if a = k then some b else valueAt r k := by
  unfold valueAt
  rw [List.find?_cons]
  by_cases h : a = k <;> simp [h]
theorem valueAt_storedNe {kvs : List (K × Value)} {k k' : K} {v : Value} (h : k' ≠ k) : valueAt (stored kvs k v) k' = valueAt kvs k' := by
  have m : ∀ l : List (K × Value), valueAt (l.map fun kv => if kv.1 = k then (kv.1, v) else kv) k' = valueAt l k' := by
    intro l
    induction l with
    | nil => rfl
    | cons q r ih =>
      obtain ⟨a, b⟩ := q
      rw [List.map_cons]
      by_cases e : a = k
      · subst e
        simp only [if_true]
        rw [valueAt_cons, valueAt_cons, if_neg (Ne.symm h), if_neg (Ne.symm h), ih]
      · simp only [e, if_false]
        rw [valueAt_cons, valueAt_cons, ih]
  have p : ∀ l : List (K × Value), valueAt (l ++ [(k, v)]) k' = valueAt l k' := by
    intro l
    induction l with
    | nil => rw [List.nil_append, valueAt_cons, if_neg (Ne.symm h)]
    | cons q r ih =>
      obtain ⟨a, b⟩ := q
      rw [List.cons_append, valueAt_cons, valueAt_cons, ih]
  unfold stored
  split
  · exact m _
  · exact p _
theorem valueAt_storedEq {kvs : List (K × Value)} {k : K} {v : Value} : valueAt (stored kvs k v) k = some v := by
  have m : ∀ l : List (K × Value), l.any (fun kv => kv.1 = k) = true → valueAt (l.map fun kv => if kv.1 = k then (kv.1, v) else kv) k = some v := by
    intro l
    induction l with
    | nil => intro h; cases h
    | cons q r ih =>
      obtain ⟨a, b⟩ := q
      intro h
      rw [List.map_cons]
      by_cases e : a = k
      · subst e
        simp only [if_true]
        rw [valueAt_cons, if_pos rfl]
      · simp only [e, if_false]
        rw [valueAt_cons, if_neg e]
        exact ih (by simpa [e] using h)
  have p : ∀ l : List (K × Value), ¬ l.any (fun kv => kv.1 = k) = true → valueAt (l ++ [(k, v)]) k = some v := by
    intro l
    induction l with
    | nil => intro _; rw [List.nil_append, valueAt_cons, if_pos rfl]
    | cons q r ih =>
      obtain ⟨a, b⟩ := q
      intro h
      rw [List.cons_append, valueAt_cons]
      by_cases e : a = k
      · exact absurd (by simp [e]) h
      · rw [if_neg e]
        exact ih (by simpa [e] using h)
  unfold stored
  split
  · exact m _ (by assumption)
  · exact p _ (by assumption)
end
section
variable {prog : Program} {w : World} {A : Around} {E : Value → Shared → Prop} {s : Shared} {h₀ : Heap} {L a b : Addr} {news : Led} {vs : List Value} {c c' : Nat} {Q : Value → Shared → Prop}
theorem eq_nil_mem (N : News h₀ L s.heap news) (hm : (a, listOf vs.toArray c) ∈ news) (hb : (b, listOf #[] c') ∈ news) (hu : A.units < cLine) (h : Q (.bool vs.isEmpty) s) : wpAny (model prog w) A (compareOp .Eq (.ref a) (.ref b)) Q E s := by
  have ha : s.heap.IsList a vs.toArray := News.isList N hm
  have hb' : s.heap.IsList b #[] := News.isList N hb
  refine cmp_ofEq ?_
  cases vs with
  | nil =>
    refine PySem.SeqAt.RcAt.lists (e := fun _ => true) ha hb' rfl hu (fun j h1 => absurd h1 (by simp)) prog w E Q ?_
    simpa using h
  | cons v r =>
    exact PySem.SeqAt.RcAt.lists_lengths ha hb' (by simp) hu prog w E Q h
end
theorem str_fine : ∀ x ∈ ["int", "real", "name", "ref", "array", "dict", "C", "F", "P", "QuadPoints", "Rect", "Subtype", "Type", "Highlight", "Annot", "Annots", "Rotate", "Page", "Link"], PyData.strOk (Str.ofString x) = true := by decide +kernel
theorem kqd_reals : ∀ ns : List Int, (tsOf (ns.map .real)).all (kqdOk 6) = true
  | [] => by rw [List.map_nil, tsOf]; rfl
  | n :: r => by
    rw [List.map_cons, tsOf, List.all_cons, kqd_reals r, Bool.and_true, tOf]
    simp only [kqdOk, List.all_cons, List.all_nil, str_fine "real" (by simp), Bool.and_true]
theorem kqd_hiO (f0 : Four) (fs : List Four) (n g : Int) : kqdOk 9 (tOf (hiO f0 fs n g)) = true := by
  have h := kqd_reals (eights (f0 :: fs))
  unfold hiO
  generalize eights (f0 :: fs) = ns at h ⊢
  simp only [tOf, tsOf, List.zipWith, kqdOk, List.all_cons, List.all_nil, h, Bool.and_true, Bool.true_and, Bool.and_eq_true]
  refine ⟨?_, ?_⟩ <;> (repeat' apply And.intro) <;> exact str_fine _ (by simp)
theorem kqd_his (fss : List (Four × List Four)) (n g : Int) : kqdOk 10 (.list (fss.map fun q => tOf (hiO q.1 q.2 n g))) = true := by
  show (fss.map fun q => tOf (hiO q.1 q.2 n g)).all (kqdOk 9) = true
  rw [List.all_eq_true]
  intro d hd
  obtain ⟨q, _, rfl⟩ := List.mem_map.mp hd
  exact kqd_hiO _ _ _ _
section
variable {prog : Program} {w : World} {A : Around} {E : Value → Shared → Prop} {s : Shared} {h₀ : Heap} {L : Addr} {m : Str → Option Value} {env : Env} {elt : PySem.Expr} {x : Str} {scope : Scope} {cl : List (Str × Addr)} {δ : Type} {news : Led}
/-- a comprehension over a list, each item made of new objects -/
theorem comp_mapF (R : Led → Value → δ → Prop) (mono : ∀ N N' v d, (∀ p ∈ N, p ∈ N') → R N v d → R N' v d) (ds : List δ) {Q : Value → Shared → Prop} {ax : Addr} {c : Nat} {vs : List Value}
    (hh : A.handled = none) (F : Fr h₀ L s.heap m) (N : News h₀ L s.heap news) (hm : (ax, listOf vs.toArray c) ∈ news) (hz : vs.length < 1000000) (hl : vs.length = ds.length)
    (turn : ∀ (g : Heap) (k : Nat) (v : Value) (d : δ) tl ys I oI C oC D m₂ h tk (E' : Value → Shared → Prop), vs[k]? = some v → ds[k]? = some d → LCg.NsObj oC m₂ → m₂ x = some v → Fr h₀ L h m → News h₀ L h (Three I oI C oC D (LCg.lst ys) (tl ++ news)) → ((@Ne Nat I C) ∧ (@Ne Nat I D) ∧ (@Ne Nat C D)) →
      wpAny (model prog w) A (eval elt (compEnvC scope cl C env)) (EltEnd (Fresh R news) h₀ L m s (Three I oI C oC D (LCg.lst ys) (tl ++ news)) (tl ++ news) d) E' (⟨h, s.gens, s.drawn, tk, s.os⟩ : Shared))
    (fin : ∀ (g : Heap) D h tk tl ys, Fr h₀ L h m → News h₀ L h ((D, LCg.lst ys) :: (tl ++ news)) → Above tl news → (∀ p ∈ tl ++ news, p.1 ≠ D) → AllR R tl ys ds → Q (.ref D) (⟨h, s.gens, s.drawn, tk, s.os⟩ : Shared)) :
    LCg.CompSrc prog w A h₀ L m env elt x scope cl (fun s₂ => LCg.FinE h₀ L m s₂ Q) (.ref ax) s :=
  comp_map (Fresh R news) (fun _ _ _ _ s h => h.mono s) ds hh F N hm hz hl turn fun g D h tk tl ys F' N' hA hD hR => fin g D h tk tl ys F' N' hA hD (fresh_list mono hR)
theorem comp_mapAF (R : Led → Value → δ → Prop) (mono : ∀ N N' v d, (∀ p ∈ N, p ∈ N') → R N v d → R N' v d) (ds : List δ) {z : Str} {Q : Flow → Shared → Prop} {ax : Addr} {c : Nat} {vs : List Value}
    (hh : A.handled = none) (F : Fr h₀ L s.heap m) (N : News h₀ L s.heap news) (hm : (ax, listOf vs.toArray c) ∈ news) (hz : vs.length < 1000000) (hl : vs.length = ds.length)
    (turn : ∀ (g : Heap) (k : Nat) (v : Value) (d : δ) tl ys I oI C oC D m₂ h tk (E' : Value → Shared → Prop), vs[k]? = some v → ds[k]? = some d → LCg.NsObj oC m₂ → m₂ x = some v → Fr h₀ L h m → News h₀ L h (Three I oI C oC D (LCg.lst ys) (tl ++ news)) → ((@Ne Nat I C) ∧ (@Ne Nat I D) ∧ (@Ne Nat C D)) →
      wpAny (model prog w) A (eval elt (compEnvC scope cl C env)) (EltEnd (Fresh R news) h₀ L m s (Three I oI C oC D (LCg.lst ys) (tl ++ news)) (tl ++ news) d) E' (⟨h, s.gens, s.drawn, tk, s.os⟩ : Shared))
    (fin : ∀ (g : Heap) D h tk tl ys, Fr h₀ L h (fun u => if u = z then some (.ref D) else m u) → News h₀ L h ((D, LCg.lst ys) :: (tl ++ news)) → Above tl news → (∀ p ∈ tl ++ news, p.1 ≠ D) → AllR R tl ys ds → Q .next (⟨h, s.gens, s.drawn, tk, s.os⟩ : Shared)) :
    LCg.CompSrc prog w A h₀ L m env elt x scope cl (fun s₂ => LCg.FinA h₀ L m s₂ z Q) (.ref ax) s :=
  comp_mapA (Fresh R news) (fun _ _ _ _ s h => h.mono s) ds hh F N hm hz hl turn fun g D h tk tl ys F' N' hA hD hR => fin g D h tk tl ys F' N' hA hD (fresh_list mono hR)
theorem tup_mapF {iter : PySem.Expr} {pos : Pos} (R : Led → Value → δ → Prop) (mono : ∀ N N' v d, (∀ p ∈ N, p ∈ N') → R N v d → R N' v d) (ds : List δ) {px : Pos} {ax : Addr} {vs : List Value} {c : Nat} {Q : Value → Shared → Prop} (hh : A.handled = none)
    (hcell : ∀ y ∈ scope.names, y.2 ≠ .cell) (hkind : scope.kind = .function) (hx : scope.names.lookup x = some .local)
    (F : Fr h₀ L s.heap m) (N : News h₀ L s.heap news) (hm : (ax, tupO vs c) ∈ news) (hz : vs.length < 1000000) (hl : vs.length = ds.length)
    (turn : ∀ (k : Nat) (v : Value) (d : δ) tl ys I oI C oC D m₂ h tk (E' : Value → Shared → Prop), vs[k]? = some v → ds[k]? = some d → LCg.NsObj oC m₂ → m₂ x = some v → Fr h₀ L h m → News h₀ L h (Three I oI C oC D (LCg.lst ys) (tl ++ news)) → ((@Ne Nat I C) ∧ (@Ne Nat I D) ∧ (@Ne Nat C D)) →
      wpAny (model prog w) A (eval elt (compEnvC scope cl C env)) (EltEnd (Fresh R news) h₀ L m s (Three I oI C oC D (LCg.lst ys) (tl ++ news)) (tl ++ news) d) E' (⟨h, s.gens, s.drawn, tk, s.os⟩ : Shared))
    (hQ : ∀ I g, BlockOK prog w A E h₀ L m env elt [⟨.Name x px, iter, [], 0⟩] scope cl pos I (fun ys n => ∃ tl, n = tl ++ news ∧ Above tl news ∧ AllR R tl ys ds) { s with heap := g } → Q (.ref I) { s with heap := g }) :
    wpAny (model prog w) A (pyIter (.ref ax)) Q E s :=
  tup_map (iter := iter) (pos := pos) (Fresh R news) (fun _ _ _ _ s h => h.mono s) ds hh hcell hkind hx F N hm hz hl turn fun I g hB => hQ I g fun RR hRR => hB RR fun D C h tk m' ys n F N o1 hn hC hD hCL hDL hCD offC hf => by
    obtain ⟨tl, e, hA, hR⟩ := hf
    subst e
    exact hRR D C h tk m' ys _ F N o1 hn hC hD hCL hDL hCD offC ⟨tl, rfl, hA, fresh_list mono hR⟩
end
theorem kqd_elder {way : Int} (h0 : 0 ≤ way) (h5 : way < 5) : kqdOk 10 (tOf (.arr (elderO way))) = true := by
  obtain rfl | rfl | rfl | rfl | rfl := five_cases h0 h5
  all_goals
    simp [elderO, tOf, tsOf, List.zipWith, kqdOk]
    first
      | done
      | exact str_fine _ (by simp)
      | ((repeat' apply And.intro) <;> exact str_fine _ (by simp))
theorem kqd_rows {way number : Int} (h0 : 0 ≤ way) (h5 : way < 5) : kqdOk 10 (shelfD (rowsO way number)) = true := by
  obtain rfl | rfl | rfl | rfl | rfl := five_cases h0 h5
  all_goals
    simp [shelfD, rowsO, rowD, headO, annO, elderO, tOf, tsOf, List.zipWith, kqdOk]
    first
      | done
      | exact str_fine _ (by simp)
      | ((repeat' apply And.intro) <;> exact str_fine _ (by simp))
end
section
theorem dat_ref {N : Led} {v : Value} {ds : List Dat} (h : DatIn N v (.tuple ds)) : ∃ a, v = .ref a := by cases h; exact ⟨_, rfl⟩
theorem ov_ref {w : World} {N : Led} {v : Value} {n g : Int} (h : OvAt w N v (.ref n g)) : ∃ a, v = .ref a := by cases h; exact ⟨_, rfl⟩
theorem news_tl4 {h₀ h : Heap} {L : Addr} {a b c d : Addr × Obj} {tl J : Led} (N : News h₀ L h (tl ++ a :: b :: c :: d :: J)) : News h₀ L h (a :: b :: c :: d :: (tl ++ J)) := newsSub N fun p hp => by
  rcases List.mem_cons.mp hp with rfl | hp
  · exact inR (.head _)
  rcases List.mem_cons.mp hp with rfl | hp
  · exact inR (.tail _ (.head _))
  rcases List.mem_cons.mp hp with rfl | hp
  · exact inR (.tail _ (.tail _ (.head _)))
  rcases List.mem_cons.mp hp with rfl | hp
  · exact inR (.tail _ (.tail _ (.tail _ (.head _))))
  rcases List.mem_append.mp hp with hp | hp
  · exact inL hp
  · exact inR (.tail _ (.tail _ (.tail _ (.tail _ hp))))
theorem Offs.grow {L t tb : Addr} {tl J : Led} {o1 o2 o3 o4 : Obj} (o : Offs L t tb J) (hA : Above tl ((t, o1) :: (tb, o2) :: (L + 1 + 1 + 1, o3) :: (L + 1 + 1, o4) :: J)) : Offs L t tb (tl ++ J) :=
  ⟨o.bt, o.rt, o.st, o.rb, o.sb, fun p hp => (List.mem_append.mp hp).elim (hA _ (.head _) p) (o.jt p), fun p hp => (List.mem_append.mp hp).elim (hA _ (.tail _ (.head _)) p) (o.jb p),
    fun p hp => (List.mem_append.mp hp).elim (hA _ (.tail _ (.tail _ (.head _))) p) (o.jr p), fun p hp => (List.mem_append.mp hp).elim (hA _ (.tail _ (.tail _ (.tail _ (.head _)))) p) (o.js p)⟩
/-- before is told -/
def St6 (w : World) (h₀ : Heap) (L : Addr) (m : Str → Option Value) (s0 : Shared) (s' : Shared) : Prop :=
  ∃ h' tk' t c vs ns nt nc k tkk oR oS oT J way tw number tn FL fvs fss EL els cE hd oh hkvs sh tb ot kvs ba, s' = (⟨h', s0.gens, s0.drawn, tk', s0.os⟩ : Shared) ∧
    Fr h₀ L h' (fun y => if y = Str.ofString "before" then some (.ref ba) else if y = Str.ofString "head" then some (.ref hd) else if y = Str.ofString "elder" then some (.ref EL) else if y = Str.ofString "number" then some (.int number tn) else if y = Str.ofString "fours" then some (.ref FL) else if y = Str.ofString "way" then some (.int way tw) else m y) ∧
    News h₀ L h' ((t, tapeO c k tkk nt) :: (tb, ot) :: (L + 1 + 1 + 1, oR) :: (L + 1 + 1, oS) :: J) ∧ Offs L t tb J ∧ (∃ v, oR.data = .cell v) ∧ oS.data = .cell (some (.ref sh)) ∧ (L + 1, oT) ∈ J ∧ oT.data = .cell (some (.ref t)) ∧
    LB t c vs ns nc k way number FL fvs fss J ∧ (EL, listOf (List.toArray els) cE) ∈ J ∧ OvAll w J els (elderO way) ∧ HeadAt w way hd oh hkvs EL J ∧ SH w number hd els sh tb ot kvs J ∧ DatIn J (.ref ba) (shelfD (rowsO way number))
theorem cut6 (w : World) {M : Model} {A : Around} {env : Env} {E : Value → Shared → Prop} {Q : Flow → Shared → Prop} {h₀ : Heap} {L FL EL hd : Addr} {number way : Int} {tn tw : Tok} {m : Str → Option Value} {l : List Stmt} {s : Shared} (_ : Fr h₀ L s.heap (fun y => if y = Str.ofString "head" then some (.ref hd) else if y = Str.ofString "elder" then some (.ref EL) else if y = Str.ofString "number" then some (.int number tn) else if y = Str.ofString "fours" then some (.ref FL) else if y = Str.ofString "way" then some (.int way tw) else m y))
    (h1 : wpAny M A (execs (l.take 1) env) (CutQ (St6 w h₀ L m s)) E s) (h2 : ∀ s', St6 w h₀ L m s s' → wpAny M A (execs (l.drop 1) env) Q E s') : wpAny M A (execs l env) Q E s := execs_cut _ 1 l s h1 h2
/-- all that stands while put_highlights is tried -/
structure LM (w : World) (L t tb c : Addr) (vs : List Value) (ns : List Int) (nc : Nat) (k way number : Int) (FL : Addr) (fvs : List Value) (fss : List (Four × List Four)) (EL : Addr) (els : List Value) (cE : Nat) (hd : Addr) (oh : Obj) (hkvs : List (Str × Value)) (sh : Addr) (ot : Obj) (kvs : List (Int × Value)) (ba FD : Addr) (fds : List Value) (rx : Addr) (M : Led) : Prop where
  bt : tb ≠ t
  mb : ∀ p ∈ M, p.1 ≠ tb
  lb : LB t c vs ns nc k way number FL fvs fss M
  cT : ∃ o, (L + 1, o) ∈ M ∧ o.data = .cell (some (.ref t))
  cS : ∃ o, (L + 1 + 1, o) ∈ M ∧ o.data = .cell (some (.ref sh))
  cR : ∃ o, (L + 1 + 1 + 1, o) ∈ M ∧ o.data = .cell (some (.ref rx))
  el : (EL, listOf els.toArray cE) ∈ M
  elsA : OvAll w M els (elderO way)
  head : HeadAt w way hd oh hkvs EL M
  shf : SH w number hd els sh tb ot kvs M
  bef : DatIn M (.ref ba) (shelfD (rowsO way number))
  fd : (FD, LCg.lst fds) ∈ M
  finds : AllR FindQ M fds fss
  ref : OvAt w M (.ref rx) (.ref number 2)
def St8 (w : World) (h₀ : Heap) (L : Addr) (m : Str → Option Value) (s0 : Shared) (s' : Shared) : Prop :=
  ∃ h' tk' t c vs ns nt nc k tkk M way tw number tn FL fvs fss EL els cE hd oh hkvs sh tb ot kvs ba FD fds rx, s' = (⟨h', s0.gens, s0.drawn, tk', s0.os⟩ : Shared) ∧
    Fr h₀ L h' (fun y => if y = Str.ofString "finds" then some (.ref FD) else if y = Str.ofString "before" then some (.ref ba) else if y = Str.ofString "head" then some (.ref hd) else if y = Str.ofString "elder" then some (.ref EL) else if y = Str.ofString "number" then some (.int number tn) else if y = Str.ofString "fours" then some (.ref FL) else if y = Str.ofString "way" then some (.int way tw) else m y) ∧
    News h₀ L h' ((tb, ot) :: (t, tapeO c k tkk nt) :: M) ∧ LM w L t tb c vs ns nc k way number FL fvs fss EL els cE hd oh hkvs sh ot kvs ba FD fds rx M
theorem cut8 (w : World) {M : Model} {A : Around} {env : Env} {E : Value → Shared → Prop} {Q : Flow → Shared → Prop} {h₀ : Heap} {L FL EL hd ba : Addr} {number way : Int} {tn tw : Tok} {m : Str → Option Value} {l : List Stmt} {s : Shared} (_ : Fr h₀ L s.heap (fun y => if y = Str.ofString "before" then some (.ref ba) else if y = Str.ofString "head" then some (.ref hd) else if y = Str.ofString "elder" then some (.ref EL) else if y = Str.ofString "number" then some (.int number tn) else if y = Str.ofString "fours" then some (.ref FL) else if y = Str.ofString "way" then some (.int way tw) else m y))
    (h1 : wpAny M A (execs (l.take 2) env) (CutQ (St8 w h₀ L m s)) E s) (h2 : ∀ s', St8 w h₀ L m s s' → wpAny M A (execs (l.drop 2) env) Q E s') : wpAny M A (execs l env) Q E s := execs_cut _ 2 l s h1 h2
theorem ref_news {h₀ h : Heap} {L t tb D : Addr} {o ot oB oR oR' oS : Obj} {tl9 tl3 J : Led} (N : News h₀ L h ((L + 1 + 1 + 1, oR') :: rest (L + 1 + 1 + 1) (tl9 ++ (D, o) :: (tl3 ++ (t, ot) :: (tb, oB) :: (L + 1 + 1 + 1, oR) :: (L + 1 + 1, oS) :: J))))
    (hX : Above (tl9 ++ (D, o) :: tl3) ((t, ot) :: (tb, oB) :: (L + 1 + 1 + 1, oR) :: (L + 1 + 1, oS) :: J)) (f : Offs L t tb J) :
    ∃ M, News h₀ L h ((tb, oB) :: (t, ot) :: M) ∧ (∀ p ∈ M, p.1 ≠ t) ∧ (∀ p ∈ M, p.1 ≠ tb) ∧ (∀ p ∈ tl9 ++ (D, o) :: tl3, p ∈ M) ∧ (∀ p ∈ J, p ∈ M) ∧ (L + 1 + 1 + 1, oR') ∈ M ∧ (L + 1 + 1, oS) ∈ M := by
  have base : ∀ p ∈ (t, ot) :: (tb, oB) :: (L + 1 + 1 + 1, oR) :: (L + 1 + 1, oS) :: J, p ∈ tl9 ++ (D, o) :: (tl3 ++ (t, ot) :: (tb, oB) :: (L + 1 + 1 + 1, oR) :: (L + 1 + 1, oS) :: J) := fun p hp => inR (.tail _ (inR hp))
  refine ⟨(L + 1 + 1 + 1, oR') :: (L + 1 + 1, oS) :: ((tl9 ++ (D, o) :: tl3) ++ J), newsSub N fun p hp => ?_, fun p hp => ?_, fun p hp => ?_, fun p hp => .tail _ (.tail _ (inL hp)), fun p hp => .tail _ (.tail _ (inR hp)), .head _, .tail _ (.head _)⟩
  · rcases List.mem_cons.mp hp with rfl | hp
    · exact .tail _ (mem_rest (base _ (.tail _ (.head _))) (Ne.symm f.rb))
    rcases List.mem_cons.mp hp with rfl | hp
    · exact .tail _ (mem_rest (base _ (.head _)) (Ne.symm f.rt))
    rcases List.mem_cons.mp hp with rfl | hp
    · exact .head _
    rcases List.mem_cons.mp hp with rfl | hp
    · exact .tail _ (mem_rest (base _ (.tail _ (.tail _ (.tail _ (.head _))))) (Ne.symm (Nat.succ_ne_self _)))
    rcases List.mem_append.mp hp with hp | hp
    · refine .tail _ (mem_rest ?_ (hX _ (.tail _ (.tail _ (.head _))) p hp))
      rcases List.mem_append.mp hp with hp | hp
      · exact inL hp
      rcases List.mem_cons.mp hp with rfl | hp
      · exact inR (.head _)
      · exact inR (.tail _ (inL hp))
    · exact .tail _ (mem_rest (base _ (.tail _ (.tail _ (.tail _ (.tail _ hp))))) (f.jr p hp))
  · rcases List.mem_cons.mp hp with rfl | hp
    · exact f.rt
    rcases List.mem_cons.mp hp with rfl | hp
    · exact f.st
    rcases List.mem_append.mp hp with hp | hp
    · exact hX _ (.head _) p hp
    · exact f.jt p hp
  · rcases List.mem_cons.mp hp with rfl | hp
    · exact f.rb
    rcases List.mem_cons.mp hp with rfl | hp
    · exact f.sb
    rcases List.mem_append.mp hp with hp | hp
    · exact hX _ (.tail _ (.head _)) p hp
    · exact f.jb p hp
theorem cons_sub {h₀ h : Heap} {L : Addr} {q : Addr × Obj} {tl X : Led} (_ : News h₀ L h (q :: (tl ++ X))) : ∀ p ∈ q :: tl, p ∈ q :: (tl ++ X) := fun p hp => by
  rcases List.mem_cons.mp hp with rfl | hp
  · exact .head _
  · exact .tail _ (inL hp)
end
local macro_rules | `(tactic| walk_at "call ref") => `(tactic| (k_here; (with_reducible show wpAny _ _ (call (Value.ref 395) _) _ _ _); k_dflt (show wpAny _ _ (call (Value.ref 395) [_]) _ _ _); k_dflt (refine' Tell.use (shold _ ?hS ?hH ?he ?h0 ?h5 ?m3 ?m5 ?sb ?hm) ?k1 ?k2 ?k3 ?k4 ?k5 ?kK ?kd ?ku ?_; (case hS => assumption); (case hH => assumption); (case he => assumption); (case k1 => k_asm); (case k2 => k_asm); (case k3 => k_asm); (case k4 => k_asm); (case k5 => k_asm); (case kK => first | exact rfl | assumption); (case h0 => assumption); (case h5 => assumption); (case m3 => assumption); (case m5 => assumption); (case hm => k_mem); (case sb => intro p hp; k_mem); (case kd => ktr_room); (case ku => ktr_units); intro r9 N9 h9 tk9 F9 M9 ho9; obtain ⟨tl9, hD9, eN9, hA9⟩ := ho9; obtain ⟨b9, er9⟩ := dat_ref hD9; subst er9; subst eN9; (try dsimp only); (try k_fold))))
local macro_rules | `(tactic| walk_at "call ref") => `(tactic| (k_here; (with_reducible show wpAny _ _ (call (Value.ref 436) [Value.int _ _, Value.int _ _, Value.ref _]) _ _ _); k_dflt (refine' Tell.use (find_fresh _ _ _ ?d1 ?d2 ?sb) ?k1 ?k2 ?k3 ?k4 ?k5 ?kK ?kd ?ku ?_; (case d2 => assumption); (case d1 => exact .head _); (case sb => assumption); (case k1 => k_asm); (case k2 => k_asm); (case k3 => k_asm); (case k4 => k_asm); (case k5 => k_asm); (case kK => first | exact rfl | assumption); (case kd => ktr_room); (case ku => ktr_units); intro r9 N9 h9 tk9 F9 M9 ho9; obtain ⟨tl9, hD9, eN9, hA9⟩ := ho9; subst eN9; (try dsimp only); (try k_fold))))
section
theorem AllR.all {δ : Type} {R : Led → Value → δ → Prop} {N : Led} : ∀ {vs : List Value} {ds : List δ}, AllR R N vs ds → ∀ d ∈ ds, ∃ v, R N v d
  | _, _, .nil, _, h => nomatch h
  | _, _, .cons a r, d, h => by
    rcases List.mem_cons.mp h with rfl | h
    · exact ⟨_, a⟩
    · exact AllR.all r d h
theorem boxr_any (w : World) {t c : Addr} {k : Int} {tk : Tok} {nt nc : Nat} {vs : List Value} {ns : List Int} {N : Led}
    (hm : (t, tapeO c k tk nt) ∈ N) (hc : (c, listOf vs.toArray nc) ∈ N) (hct : c ≠ t) (hv : IntsAre vs ns) (h1 : 0 < ns.length) (h2 : ns.length ≤ 40) (hk : 0 ≤ k) (hk2 : k ≤ 60) :
    Tell w 531 [.ref t] 60 N (fun r _ => r = .bool true) := by
  have C := boxr_tell w (t := t) (c := c) (k := k) (tk := tk) (nt := nt) (I := rest t N) rest_ne (mem_rest hc hct) hct hv h1 h2 hk hk2
  intro loose mean mg mb dp un gd cn cs a ccd cl outer A₀ base h₀ L m s Q E B F X Nw T hcs hd hu hret
  exact C.use B F X (newsFront Nw hm) T hcs hd hu hret
theorem plain_head {way : Int} : Plain (headO way) = true := by unfold headO; split <;> rfl
theorem elder_len (way : Int) : (elderO way).length ≤ 2 := by unfold elderO; split <;> (try split) <;> decide
theorem key_mid {n : Int} {e1 e2 e9 : Value} (h : 3 ≤ n) : valueAt [((1 : Int), e1), (n, e2), (9, e9)] n = some e2 := by
  rw [valueAt_cons, if_neg (by omega), valueAt_cons, if_pos rfl]
theorem key_one {n : Int} {e1 e2 e9 : Value} : valueAt [((1 : Int), e1), (n, e2), (9, e9)] 1 = some e1 := by
  rw [valueAt_cons, if_pos rfl]
section
variable {w : World} {L t tb c : Addr} {vs : List Value} {ns : List Int} {nc : Nat} {k way number : Int} {FL : Addr} {fvs : List Value} {fss : List (Four × List Four)} {EL : Addr} {els : List Value} {cE : Nat} {hd : Addr} {oh : Obj} {hkvs : List (Str × Value)} {sh : Addr} {ot : Obj} {kvs : List (Int × Value)} {ba FD : Addr} {fds : List Value} {rx : Addr} {M : Led}
theorem law_bad (tt : Obj) (hM : LM w L t tb c vs ns nc k 4 number FL fvs fss EL els cE hd oh hkvs sh ot kvs ba FD fds rx M) : TellX w 472 [.ref sh, .ref rx, .ref FD] 40 ((tb, ot) :: (t, tt) :: M) := by
  have sb : ∀ p ∈ M, p ∈ (t, tt) :: M := fun p hp => .tail _ hp
  obtain ⟨tr, e1, e2, e9, E1, c1, d9, hS, rfl, hD, lo, x1, xE, x2, x9, xo, xt⟩ := hM.shf
  obtain ⟨a, b, loh, d, e, f, g, i⟩ := hM.head
  obtain ⟨tq, ea⟩ : ∃ tq, valueAt hkvs (Str.ofString "Annots") = some (.int 5 tq) := by
    rcases f with ⟨h, _⟩ | ⟨h, _⟩ | ⟨h, _⟩ | ⟨_, tq, h⟩
    · omega
    · omega
    · omega
    · exact ⟨tq, h⟩
  refine put_bad w (q := 5) (tq := tq) (hS.mono sb) (hM.ref.mono sb) (fun p hp => ?_) hD lo (by show 3 < 20; decide) (key_mid hM.lb.m3) (x2.mono sb) (.obj (g.mono sb) plain_head) (sb _ a) b loh (by omega) ?_
  · rcases List.mem_cons.mp hp with rfl | hp
    · exact Ne.symm hM.bt
    · exact hM.mb p hp
  · rw [ea]
    exact ⟨.obj (.int 5 _) rfl, .inl rfl⟩
theorem law_put (tt : Obj) (hw : way ≠ 4) (hM : LM w L t tb c vs ns nc k way number FL fvs fss EL els cE hd oh hkvs sh ot kvs ba FD fds rx M) :
    Tell w 472 [.ref sh, .ref rx, .ref FD] 40 ((tb, ot) :: (t, tt) :: M) (fun r N' => r = .none ∧ PutOut w tb hd ot kvs hkvs els number 2 ((t, tt) :: M) fss N') := by
  have sb : ∀ p ∈ M, p ∈ (t, tt) :: M := fun p hp => .tail _ hp
  have sc : ∀ p ∈ M, p ∈ (tb, ot) :: (t, tt) :: M := fun p hp => .tail _ (.tail _ hp)
  obtain ⟨tr, e1, e2, e9, E1, c1, d9, hS, rfl, hD, lo, x1, xE, x2, x9, xo, xt⟩ := hM.shf
  obtain ⟨a, b, loh, d, e, f, g, i⟩ := hM.head
  have hl := hM.elsA.len
  have hl2 := elder_len way
  have hoff : ∀ p ∈ (t, tt) :: M, p.1 ≠ tb := fun p hp => by
    rcases List.mem_cons.mp hp with rfl | hp
    · exact Ne.symm hM.bt
    · exact hM.mb p hp
  have hfw : ∀ q ∈ fss, q.2.length < 50 := fun q hq => by
    obtain ⟨v, _, _, _, _, _, hql⟩ := hM.lb.hfr.all q hq
    omega
  have hfz := hM.lb.hfl
  obtain ⟨elv, hel, hk⟩ : ∃ elv, Fetches w ((tb, ot) :: (t, tt) :: M) tb ((valueAt hkvs (Str.ofString "Annots")).getD .none) elv ∧ ((elv = .none ∧ els = []) ∨ ∃ E c, elv = .ref E ∧ (E, listOf els.toArray c) ∈ (t, tt) :: M ∧ OvAll w ((t, tt) :: M) els (elderO way)) := by
    rcases f with ⟨rfl, h⟩ | ⟨h0, h⟩ | ⟨h0, u, h, hu⟩ | ⟨h, _⟩
    · rw [h]
      refine ⟨.none, ⟨.none, .inl rfl⟩, .inl ⟨rfl, ?_⟩⟩
      exact List.eq_nil_of_length_eq_zero hl
    · rw [h]
      exact ⟨.ref EL, ⟨.obj (.arr (sc _ hM.el) (OvAll.mono sc hM.elsA)) rfl, .inl rfl⟩, .inr ⟨EL, cE, rfl, sb _ hM.el, OvAll.mono sb hM.elsA⟩⟩
    · rw [h]
      exact ⟨.ref E1, ⟨.obj (.arr (sc _ xE) (OvAll.mono sc hM.elsA)) rfl, .inr ⟨1, 0, ot, _, e1, hu.mono sc, .head _, hD, lo, key_one, x1.mono sc⟩⟩, .inr ⟨E1, c1, rfl, sb _ xE, OvAll.mono sb hM.elsA⟩⟩
    · exact absurd h hw
  exact put_ok w (lE := elderO way) (hS.mono sb) (hM.ref.mono sb) hoff hD lo (by show 3 < 20; decide) (key_mid hM.lb.m3) (x2.mono sb) (.obj (g.mono sb) plain_head) (sb _ a) b loh (by omega) hel hk (by omega) (sb _ hM.fd) (AllR.monoR (R := FindQ) (fun _ _ h => FindAt.mono sb h) hM.finds) (by omega) hfw
theorem ovApp {N : Led} {ws : List Value} {ps : List OV} (k : OvAll w N ws ps) : ∀ {vs : List Value} {os : List OV}, OvAll w N vs os → OvAll w N (vs ++ ws) (os ++ ps)
  | _, _, .nil => k
  | _, _, .cons h r => .cons h (ovApp k r)
theorem fresh_refs {kvs' : List (Int × Value)} {n g : Int} {N : Led} : ∀ {frs : List Value} {fss : List (Four × List Four)}, AllR (FreshAt w kvs' n g) N frs fss → ∃ os, OvAll w N frs os
  | _, _, .nil => ⟨[], .nil⟩
  | _, _, .cons ⟨ni, _, _, a, _⟩ r => by
    obtain ⟨os, h⟩ := fresh_refs r
    exact ⟨.ref ni 0 :: os, .cons a h⟩
/-- what is laid, for the tests that follow -/
structure PutD (w : World) (t tb : Addr) (tt : Obj) (number : Int) (els : List Value) (fss : List (Four × List Four)) (M : Led) (ot' : Obj) (kvs' : List (Int × Value)) (M1 : Led) (fd : Addr) (of : Obj) (hv : List (Str × Value)) (ev e1 : Value) (a E1 : Addr) (frs : List Value) (ca c1 : Nat) : Prop where
  sub : ∀ p ∈ (t, tt) :: M, p ∈ M1
  dict : ot'.IsDictOf (IK w) kvs'
  key : valueAt kvs' number = some ev
  ent : EntAt M1 ev 2 (.ref fd)
  plain : PlainV w M1 (.ref fd)
  fdm : (fd, of) ∈ M1
  fdd : of.IsDictOf (SK w) hv
  ann : valueAt hv (Str.ofString "Annots") = some (.ref a)
  rot : ∃ tr, valueAt hv (Str.ofString "Rotate") = some (.int 90 tr)
  row : (a, listOf (els ++ frs).toArray ca) ∈ M1
  one : valueAt kvs' 1 = some e1
  ent1 : EntAt M1 e1 0 (.ref E1)
  lst1 : (E1, listOf els.toArray c1) ∈ M1
  fresh : AllR (FreshAt w kvs' number 2) M1 frs fss
theorem put_facts {tt : Obj} {h₀ h : Heap} {L' : Addr} {N' : Led} (hN : News h₀ L' h N') (hne : fss ≠ []) (hM : LM w L t tb c vs ns nc k way number FL fvs fss EL els cE hd oh hkvs sh ot kvs ba FD fds rx M) (hO : PutOut w tb hd ot kvs hkvs els number 2 ((t, tt) :: M) fss N') :
    ∃ ot' kvs' M1 fd of hv ev e1 a E1 frs ca c1, N' = (tb, ot') :: M1 ∧ PutD w t tb tt number els fss M ot' kvs' M1 fd of hv ev e1 a E1 frs ca c1 := by
  obtain ⟨ot', kvs', tl, rfl, hoff, hA, hD', _, hq⟩ := hO
  obtain ⟨ev', fd, of, a, frs, kvsk, ca, rfl, hG, hE, hfd, hfD, hlo, ha, hF⟩ := hq hne
  obtain ⟨tr, e1, e2, e9, E1, c1, d9, hS, rfl, hD, lo, x1, xE, x2, x9, xo, xt⟩ := hM.shf
  obtain ⟨_, _, _, _, _, _, _, ty, tr9, hty, hrows⟩ := hM.head
  have sb : ∀ p ∈ (t, tt) :: M, p ∈ tl ++ (t, tt) :: M := fun p hp => inR hp
  have sm : ∀ p ∈ M, p ∈ tl ++ (t, tt) :: M := fun p hp => inR (.tail _ hp)
  have h3 := hM.lb.m3
  have hst : stored hkvs (Str.ofString "Annots") (.ref a) = [(Str.ofString "Type", ty), (Str.ofString "Rotate", .int 90 tr9), (Str.ofString "Annots", .ref a)] := by
    rcases hrows with rfl | ⟨u, rfl⟩ <;> rfl
  rw [hst] at hfD
  have k2 : valueAt kvsk number = some e2 := hG _ _ (key_mid h3)
  have k1 : valueAt kvsk 1 = some e1 := hG _ _ key_one
  have hF' : AllR (FreshAt w (stored kvsk number ev') number 2) (tl ++ (t, tt) :: M) frs fss := by
    refine AllR.imp (fun v q hq => ?_) hF
    obtain ⟨ni, ei, ui, r1, r2, r3, r4⟩ := hq
    refine ⟨ni, ei, ui, r1, ?_, r3, r4⟩
    rw [valueAt_storedNe (fun e => ?_)]
    · exact r2
    · subst e
      rw [k2] at r2
      cases r2
      obtain ⟨ta, ca, tga, rfl, ha⟩ := r3
      obtain ⟨tb', cb, tgb, e, hb⟩ := x2
      cases e
      have := newsFn hN (.tail _ ha) (.tail _ (sm _ hb))
      simp at this
  obtain ⟨os, hos⟩ := fresh_refs hF'
  obtain ⟨es, ec, rfl⟩ := isDict_lit hfD
  have hO : OvAt w (tl ++ (t, tt) :: M) (.ref fd) (.dict [Str.ofString "Annots", Str.ofString "Rotate", Str.ofString "Type"] [.arr (elderO way ++ os), .int 90, .name (Str.ofString "Page")]) :=
    .dict (vs := [_, _, _]) hlo hfd hfD (show List.Perm [(Str.ofString "Type", _), (Str.ofString "Rotate", _), (Str.ofString "Annots", _)] _ from List.reverse_perm [(Str.ofString "Annots", _), (Str.ofString "Rotate", _), (Str.ofString "Type", _)]) (by decide) (by decide) (by decide) rfl (.cons (.arr ha (ovApp hos (OvAll.mono sm hM.elsA))) (.cons (.int 90 _) (.cons (hty.mono sm) .nil)))
  exact ⟨ot', _, _, fd, _, _, ev', e1, a, E1, frs, ca, c1, rfl, sb, hD', valueAt_storedEq, hE, .obj hO rfl, hfd, hfD, rfl, ⟨_, rfl⟩, ha, by rw [valueAt_storedNe (by omega)]; exact k1, x1.mono sm, sm _ xE, hF'⟩
end
/-- put_highlights has come back -/
def St10 (w : World) (tb hd : Addr) (ot : Obj) (kvs : List (Int × Value)) (hkvs : List (Str × Value)) (els : List Value) (number : Int) (M' : Led) (fss : List (Four × List Four)) (h₀ : Heap) (L : Addr) (m : Str → Option Value) (s0 s' : Shared) : Prop :=
  ∃ h' tk' N', s' = (⟨h', s0.gens, s0.drawn, tk', s0.os⟩ : Shared) ∧ Fr h₀ L h' m ∧ News h₀ L h' N' ∧ PutOut w tb hd ot kvs hkvs els number 2 M' fss N'
theorem cut10 {w : World} {sh rx FD tb hd : Addr} {ot : Obj} {kvs : List (Int × Value)} {hkvs : List (Str × Value)} {els : List Value} {number : Int} {M' : Led} {fss : List (Four × List Four)} {X : Led} {M : Model} {A : Around} {env : Env} {E : Value → Shared → Prop} {Q : Flow → Shared → Prop} {h₀ : Heap} {L : Addr} {m : Str → Option Value} {l : List Stmt} {s : Shared} (_ : Fr h₀ L s.heap m)
    (_ : Tell w 472 [.ref sh, .ref rx, .ref FD] 40 X (fun r N' => r = .none ∧ PutOut w tb hd ot kvs hkvs els number 2 M' fss N'))
    (h1 : wpAny M A (execs (l.take 2) env) (CutQ (St10 w tb hd ot kvs hkvs els number M' fss h₀ L m s)) E s) (h2 : ∀ s', St10 w tb hd ot kvs hkvs els number M' fss h₀ L m s s' → wpAny M A (execs (l.drop 2) env) Q E s') : wpAny M A (execs l env) Q E s := execs_cut _ 2 l s h1 h2
theorem put_fetch {w : World} {t tb rx : Addr} {tt : Obj} {number : Int} {els : List Value} {fss : List (Four × List Four)} {M : Led} {ot' : Obj} {kvs' : List (Int × Value)} {M1 : Led} {fd : Addr} {of : Obj} {hv : List (Str × Value)} {ev e1 : Value} {a E1 : Addr} {frs : List Value} {ca c1 : Nat} (hP : PutD w t tb tt number els fss M ot' kvs' M1 fd of hv ev e1 a E1 frs ca c1) (lo : (tb == sysModules) = false) (hr : OvAt w M1 (.ref rx) (.ref number 2)) :
    Fetches w ((tb, ot') :: M1) tb (.ref rx) (.ref fd) :=
  ⟨hP.plain.mono fun p hp => .tail _ hp, .inr ⟨number, 2, ot', kvs', ev, hr.mono fun p hp => .tail _ hp, .head _, hP.dict, lo, hP.key, hP.ent.mono fun p hp => .tail _ hp⟩⟩
theorem put_fetch1 {w : World} {t tb : Addr} {tt : Obj} {number : Int} {els : List Value} {fss : List (Four × List Four)} {M : Led} {ot' : Obj} {kvs' : List (Int × Value)} {M1 : Led} {fd : Addr} {of : Obj} {hv : List (Str × Value)} {ev e1 : Value} {a E1 : Addr} {frs : List Value} {ca c1 : Nat} (hP : PutD w t tb tt number els fss M ot' kvs' M1 fd of hv ev e1 a E1 frs ca c1) (lo : (tb == sysModules) = false) {os : List OV} (he : OvAll w M1 els os) {N : Led} (sb : ∀ p ∈ (tb, ot') :: M1, p ∈ N) {v : Value} (hr : OvAt w N v (.ref 1 0)) :
    Fetches w N tb v (.ref E1) :=
  ⟨.obj ((OvAt.arr hP.lst1 he).mono fun p hp => sb p (.tail _ hp)) rfl, .inr ⟨1, 0, ot', kvs', e1, hr, sb _ (.head _), hP.dict, lo, hP.one, hP.ent1.mono fun p hp => sb p (.tail _ hp)⟩⟩
theorem put_fetchF {w : World} {t tb : Addr} {tt : Obj} {number : Int} {els : List Value} {fss : List (Four × List Four)} {M : Led} {ot' : Obj} {kvs' : List (Int × Value)} {M1 : Led} {fd : Addr} {of : Obj} {hv : List (Str × Value)} {ev e1 : Value} {a E1 : Addr} {frs : List Value} {ca c1 : Nat} (hP : PutD w t tb tt number els fss M ot' kvs' M1 fd of hv ev e1 a E1 frs ca c1) (lo : (tb == sysModules) = false) {N : Led} (sb : ∀ p ∈ (tb, ot') :: M1, p ∈ N) {y : Value} {q : Four × List Four} (hr : FreshAt w kvs' number 2 M1 y q) :
    ∃ yr ui, y = .ref yr ∧ Fetches w N tb (.ref yr) ui ∧ OvAt w N ui (hiO q.1 q.2 number 2) := by
  obtain ⟨ni, ei, ui, r1, r2, r3, r4⟩ := hr
  obtain ⟨yr, rfl⟩ := ov_ref r1
  have s1 : ∀ p ∈ M1, p ∈ N := fun p hp => sb p (.tail _ hp)
  exact ⟨yr, ui, rfl, ⟨.obj (r4.mono s1) rfl, .inr ⟨ni, 0, ot', kvs', ei, r1.mono s1, sb _ (.head _), hP.dict, lo, r2, r3.mono s1⟩⟩, r4.mono s1⟩
theorem news_take {h₀ h : Heap} {L D : Addr} {xs ys : List Value} {X : Led} (N : News h₀ L h ((D, listOf (List.take ((xs.length : Nat) : Int).toNat (xs ++ ys).toArray.toList).toArray 0) :: X)) : News h₀ L h ((D, listOf xs.toArray 0) :: X) := by
  have e : List.take ((xs.length : Nat) : Int).toNat (xs ++ ys).toArray.toList = xs := by simp
  rwa [e] at N
theorem news_skip {h₀ h : Heap} {L D : Addr} {xs ys : List Value} {X : Led} (N : News h₀ L h ((D, listOf (List.drop ((xs.length : Nat) : Int).toNat (xs ++ ys).toArray.toList).toArray 0) :: X)) : News h₀ L h ((D, listOf ys.toArray 0) :: X) := by
  have e : List.drop ((xs.length : Nat) : Int).toNat (xs ++ ys).toArray.toList = ys := by simp
  rwa [e] at N
end
local macro_rules | `(tactic| walk_at "call ref") => `(tactic| (k_here; (with_reducible show wpAny _ _ (call (Value.ref 531) [Value.ref _]) _ _ _); k_dflt (refine' Tell.use (boxr_any _ ?hm ?hc ?hct ?hv ?h1 ?h2 ?hk ?hk2) ?k1 ?k2 ?k3 ?k4 ?k5 ?kK ?kd ?ku ?_; (case k1 => k_asm); (case k2 => k_asm); (case k3 => k_asm); (case k4 => k_asm); (case k5 => k_asm); (case kK => first | exact rfl | assumption); (case hm => k_mem); (case hc => k_mem); (case hct => assumption); (case hv => assumption); (case h1 => assumption); (case h2 => assumption); (case hk => omega); (case hk2 => omega); (case kd => ktr_room); (case ku => ktr_units); intro r9 N9 h9 tk9 F9 M9 ho9; subst ho9; (try dsimp only); (try k_fold))))
local macro_rules | `(tactic| walk_at "call ref") => `(tactic| (k_here; (with_reducible show wpAny _ _ (call (Value.ref 472) _) _ _ _); k_dflt (refine' Tell.use ?hP ?k1 ?k2 ?k3 ?k4 ?k5 ?kK ?kd ?ku ?_; (case hP => assumption); (case k1 => k_asm); (case k2 => k_asm); (case k3 => k_asm); (case k4 => k_asm); (case k5 => k_asm); (case kK => first | exact rfl | assumption); (case kd => ktr_room); (case ku => ktr_units); intro r9 N9 h9 tk9 F9 M9 ho9; obtain ⟨er9, hO9⟩ := ho9; subst er9; (try dsimp only); (try k_fold))))
local macro_rules | `(tactic| walk_at "call ref") => `(tactic| (k_here; (with_reducible show wpAny _ _ (call (Value.ref 334) [Value.ref _, _]) _ _ _); k_dflt (refine' Tell.use (fetch_tell _ ?hS (put_fetch1 ?hP ?lo ?he ?sb (OvAt.mono ?ms ?hr))) ?k1 ?k2 ?k3 ?k4 ?k5 ?kK ?kd ?ku ?_; (case hr => assumption); (case hP => assumption); (case lo => assumption); (case he => assumption); (case k1 => k_asm); (case k2 => k_asm); (case k3 => k_asm); (case k4 => k_asm); (case k5 => k_asm); (case kK => first | exact rfl | assumption); (case ms => intro p9 hp9; k_mem); (case sb => intro p9 hp9; k_mem); (case hS => ktr_rel); (case kd => ktr_room); (case ku => ktr_units); intro r9 N9 h9 tk9 F9 M9 ho9; obtain ⟨er9, tl9, eN9, hA9⟩ := ho9; subst er9; subst eN9; (try dsimp only); (try k_fold))))
local macro_rules | `(tactic| walk_at "call ref") => `(tactic| (k_here; (with_reducible show wpAny _ _ (call (Value.ref 519) _) _ _ _); k_dflt (show wpAny _ _ (call (Value.ref 519) [_, _]) _ _ _); k_dflt (refine' Tell.use (due_tell _ ?hfl (AllR.monoR (R := FourT) (fun _ _ h => FourT.mono ?hs h) ?hF) (OvAt.mono ?hs2 ?hr) ?hz) ?k1 ?k2 ?k3 ?k4 ?k5 ?kK ?kd ?ku ?_; (case hF => assumption); (case k1 => k_asm); (case k2 => k_asm); (case k3 => k_asm); (case k4 => k_asm); (case k5 => k_asm); (case kK => first | exact rfl | assumption); (case hfl => k_mem); (case hr => assumption); (case hs => intro p9 hp9; k_mem); (case hs2 => intro p9 hp9; k_mem); (case hz => omega); (case kd => ktr_room); (case ku => ktr_units); intro r9 N9 h9 tk9 F9 M9 ho9; obtain ⟨tl9, hD9, eN9, hA9⟩ := ho9; subst eN9; (try dsimp only); (try k_fold))))
section
/-- the law's own text, read off the given row -/
def lawStmt : Stmt := (PySem.Challenge.pw_pb0480_01.main.body.getLast?).getD (.Pass ⟨0, 0, 0, 0⟩)
def lawBody : List Stmt := match lawStmt with
  | .FunctionDef _ _ b _ _ _ _ _ _ _ => b
  | _ => []
def lawScope : Scope := match lawStmt with
  | .FunctionDef _ _ _ _ _ _ s _ _ _ => s
  | _ => { kind := .function, names := [], isGenerator := false, isCoroutine := false }
abbrev lawEnv (L fa : Addr) (cd : Value) : Env := envOfC (Str.ofString "law") lawScope L fa cd
def lb1 : List Stmt := lawBody.drop 1
def lb2 : List Stmt := lb1.drop 3
def lb3 : List Stmt := lb2.drop 1
def lb4 : List Stmt := lb3.drop 2
def lb5 : List Stmt := lb4.drop 1
def lb6 : List Stmt := lb5.drop 1
def lb7 : List Stmt := lb6.drop 2
def lb9 : List Stmt := lb7.drop 2
/-- a goal of the walk, wrapped: so nothing unfolds it while a term is read -/
structure WpL (M : Model) (A : Around) (t : Sem Flow) (Q : Flow → Shared → Prop) (E : Value → Shared → Prop) (s : Shared) : Prop where
  get : wpAny M A t Q E s
theorem cutL {M : Model} {A : Around} {env : Env} {E : Value → Shared → Prop} {Q : Flow → Shared → Prop} (P : Shared → Prop) (n : Nat) {l l' : List Stmt} (e : l.drop n = l') (s : Shared)
    (h1 : WpL M A (execs (l.take n) env) (CutQ P) E s) (h2 : ∀ s', P s' → WpL M A (execs l' env) Q E s') : WpL M A (execs l env) Q E s := ⟨execs_cut P n l s h1.get (by rw [e]; exact fun s' h => (h2 s' h).get)⟩
theorem lb_1 : lawBody.drop 1 = lb1 := rfl
theorem lb_2 : lb1.drop 3 = lb2 := rfl
theorem lb_3 : lb2.drop 1 = lb3 := rfl
theorem lb_4 : lb3.drop 2 = lb4 := rfl
theorem lb_5 : lb4.drop 1 = lb5 := rfl
theorem lb_6 : lb5.drop 1 = lb6 := rfl
theorem lb_7 : lb6.drop 2 = lb7 := rfl
theorem lb_9 : lb7.drop 2 = lb9 := rfl
end
section
set_option maxHeartbeats 8000000 in
theorem stage2 (w : World) {h₀ : Heap} {L fa : Addr} {cd : Value} {loose : List Str} {mean : ExcName → Option Value} {mg mb : Str → Option Value} {m : Str → Option Value} {s0 s1 : Shared} {E : Value → Shared → Prop} (K1 : Below callerA h₀ [] h₀) (X0 : (Mine.hd.heap_39 w.params).In h₀) (T0 : Top Mine.hd.view_39 loose mean mg mb h₀) (hst : St1 h₀ L m s0 s1) :
    WpL (model PySem.Challenge.rw_pb0480_01.row.prog w) (callerA.deeper (envOfC (Str.ofString "law") lawScope L fa cd)) (execs (lb1.take 3) (envOfC (Str.ofString "law") lawScope L fa cd)) (CutQ (St2 h₀ L m s0)) E s1 := by
  revert X0
  k_fill
  intro X0
  obtain ⟨h', tk', t, c, vs, ns, nt, nc, tk0, oR, oS, oT, rfl, F1, N1, eT, eR, eS, ht, ct, lc, hv, hn0, hn40⟩ := hst
  have hct : c ≠ t := Nat.ne_of_lt ct
  generalize hsc : lawScope = sc
  generalize hbd : lb1 = bd
  conv at hsc => lhs; whnf
  conv at hbd => lhs; whnf
  subst hsc hbd
  refine WpL.mk ?_
  · dsimp only [List.take]
    walk
    k_dflt (refine LCg.Assign_ListComp_U (F₀ := by k_asm) (by rfl) (by rfl) (by with_unfolding_all rfl) (by decide) (by rfl) (by decide) (by rfl) (by rfl) (by rfl) ?_)
    walk
    rename IsRange _ _ _ _ _ _ _ _ => hr
    rename (0 ≤ _) => hd0
    rename (_ < (4 : Int)) => hd4
    rename (_ < (5 : Int)) => hw5
    rename Fr _ _ _ _ => F3
    rename News _ _ _ _ => N3
    have hrf := range_of0 hd0 (by omega)
    refine comp_range (fun pre ys nn => TapeJ t c nt _ 2 (2 + 9 * (pre.length : Int)) (fun M => ∃ ffs, AllR RowR M ys ffs ∧ ffs.length = pre.length) nn) rfl F3 N3 hr hrf.1 hrf.2 (by omega) ⟨_, _, [], rfl, ht, above_nil, by omega, by omega, [], .nil, rfl⟩ ?_ ?_
    · rintro gg pre post v ys nn Io oIo Co oCo Do mo h3 tk3 E' er ⟨tv, rfl⟩ ⟨k, tkk, tl, rfl, hofft, hA, hk1, hk2, ffs, hff, hffl⟩ hC hx F4 N4 off ne
      have hpl : pre.length < 3 := by
        have := congrArg List.length er
        rw [List.length_replicate, List.length_append, List.length_cons] at this
        omega
      have o3 := off.mem _ (.head _)
      have n1 : @Ne Nat Io t := Ne.symm o3.1
      have n2 : @Ne Nat Co t := Ne.symm o3.2.1
      have n3 : @Ne Nat Do t := Ne.symm o3.2.2
      walk
      k_dflt (refine LCg.ListComp_U (F₀ := by k_asm) (by rfl) (by decide) (by rfl) (by decide) (by rfl) ?_)
      walk
      (try k_unfold)
      rename IsRange _ _ _ _ _ _ _ _ => hr2
      rename (0 ≤ _) => hd20
      rename (_ < (2 : Int)) => hd22
      rename Fr _ _ _ _ => F5
      rename News _ _ _ _ => N5
      have hrf2 := range_of hd20 (by omega)
      refine comp_range (fun pre2 ys2 nn2 => TapeJ t c nt _ (k + 1) (k + 1 + 4 * (pre2.length : Int)) (fun M => ∃ fs, AllR FourT M ys2 fs ∧ fs.length = pre2.length) nn2) rfl F5 (three_front N5) hr2 hrf2.1 hrf2.2 (by omega) ⟨_, _, [], rfl, three_off o3 hofft, above_nil, by omega, by omega, [], .nil, rfl⟩ ?_ ?_
      · rintro gg2 pre2 post2 v2 ys2 nn2 I1 oI1 C1 oC1 D1 m1 h5 tk5 E2 er2 ⟨tv2, rfl⟩ ⟨kk, tkkk, tl2, rfl, hofft2, hA2, hkk1, hkk2, fs, hfs, hfsl⟩ hC1 hx1 F6 N6 off1 ne1
        have hpl2 : pre2.length < 2 := by
          have := congrArg List.length er2
          rw [List.length_replicate, List.length_append, List.length_cons] at this
          omega
        walk
        rename FourT _ _ _ => hq9
        rename (@LT.lt Nat _ t _) => lt9
        rename (∀ p ∈ rest t _, p.1 < _) => lq9
        rename Fr _ _ _ _ => F9
        rename News _ _ _ _ => N9
        exact tape_step (P := fun y M => ∃ fs, AllR FourT M (ys2 ++ [y]) fs ∧ fs.length = (pre2 ++ [()]).length) off1 hofft2 hA2 F9 N9 lt9 lq9 (by omega) (by rw [List.length_append, List.length_singleton]; omega)
          ⟨fs ++ [_], AllR.snoc (AllR.monoR (fun _ _ h => FourT.mono (fun p hp => .tail _ hp) h) hfs) (FourT.mono (fun p hp => by rw [List.mem_singleton.mp hp]; exact .head _) hq9), by rw [List.length_append, List.length_append, hfsl]; rfl⟩
      · rintro gg2 ys2 nn2 ⟨kk, tkkk, tl2, rfl, hofft2, hA2, hkk1, hkk2, fs, hfs, hfsl⟩
        rw [List.length_replicate] at hkk2 hfsl
        intro D1 h6 tk6 F6 N6 o1
        (try k_unfold)
        obtain ⟨f0, fr, rfl⟩ : ∃ f0 fr, fs = f0 :: fr := by
          cases fs with
          | nil => rw [List.length_nil] at hfsl; omega
          | cons a b => exact ⟨a, b, rfl⟩
        rw [List.length_cons] at hfsl
        exact row_step (P := fun y M => ∃ ffs, AllR RowR M (ys ++ [y]) ffs ∧ ffs.length = (pre ++ [()]).length) off hofft hA F6 N6 (off1_mem o1) hofft2 hA2 (by omega) (by rw [List.length_append, List.length_singleton]; omega)
          ⟨ffs ++ [(f0, fr)], AllR.snoc (AllR.monoR (fun _ _ h => RowR.mono (fun p hp => inR hp) h) hff) ⟨D1, ys2, rfl, .head _, AllR.monoR (fun _ _ h => FourT.mono (fun p hp => .tail _ (inL hp)) h) hfs, by show fr.length ≤ 1; omega⟩, by rw [List.length_append, List.length_append, hffl]; rfl⟩
    · rintro gg ys nn ⟨k, tkk, tl, rfl, hofft, hA, hk1, hk2, ffs, hff, hffl⟩
      rw [List.length_replicate] at hk2 hffl
      intro Df hf tkf Ff Nf of1
      have oD := off1_mem of1
      have nD : @Ne Nat Df t := Ne.symm (oD _ (.head _))
      walk
      rename Fr _ _ _ _ => F9
      rename News _ _ _ _ => N9
      exact ⟨rfl, _, _, t, c, vs, ns, nt, nc, k + 1, _, oR, oS, oT, _, _, _, _, _, Df, ys, ffs, rfl, F9, news_swap N9, fun p hp => by
        rcases List.mem_cons.mp hp with rfl | hp
        · exact nD
        · exact hofft p hp, .tail _ (inR (.head _)), .tail _ (inR (.tail _ (.head _))), .tail _ (inR (.tail _ (.tail _ (.head _)))), .tail _ (inR (.tail _ (.tail _ (.tail _ (.head _))))), eT, eR, eS, hct, hv, hn0, hn40, by omega, by omega, by omega, by omega, by omega, by omega, .head _, AllR.monoR (fun _ _ h => RowR.mono (fun p hp => .tail _ (inL hp)) h) hff, by omega⟩
end
section
set_option maxHeartbeats 8000000 in
theorem stage3 (w : World) {h₀ : Heap} {L fa : Addr} {cd : Value} {loose : List Str} {mean : ExcName → Option Value} {mg mb : Str → Option Value} {m : Str → Option Value} {s0 s1 : Shared} {E : Value → Shared → Prop} (K1 : Below callerA h₀ [] h₀) (X0 : (Mine.hd.heap_39 w.params).In h₀) (T0 : Top Mine.hd.view_39 loose mean mg mb h₀) (hst : St2 h₀ L m s0 s1) :
    WpL (model PySem.Challenge.rw_pb0480_01.row.prog w) (callerA.deeper (envOfC (Str.ofString "law") lawScope L fa cd)) (execs (lb2.take 1) (envOfC (Str.ofString "law") lawScope L fa cd)) (CutQ (St3 w h₀ L m s0)) E s1 := by
  revert X0
  k_fill
  intro X0
  obtain ⟨h2, tk2, t, c, vs, ns, nt, nc, k, tkk, oR, oS, oT, I, way, tw, number, tn, FL, fvs, fss, rfl, F2, N2, hI, hcI, hRI, hSI, hTI, eT, eR, eS, hct, hv, hn0, hn40, hk0, hk40, hw0, hw5, hm3, hm5, hFL, hfr, hfl⟩ := hst
  have hLB : LB t c vs ns nc k way number FL fvs fss I := ⟨hI, hcI, hct, hv, hn0, hn40, hk0, hk40, hw0, hw5, hm3, hm5, hFL, hfr, hfl⟩
  generalize hsc : lawScope = sc
  generalize hbd : lb2 = bd
  conv at hsc => lhs; whnf
  conv at hbd => lhs; whnf
  subst hsc hbd
  refine WpL.mk ?_
  · dsimp only [List.take]
    walk
    rename Obj.IsDictOf _ _ [] => hd0
    rename ((_ == sysModules) = false) => los
    rename OvAt w _ _ (.ref 9 0) => hR1
    rename OvAt w _ _ (.name (Str.ofString "Link")) => hL1
    rename Fr _ _ _ _ => F9
    rename News _ _ _ _ => N9
    rename Above _ ((_, _) :: (_ ++ (_, listOf _ _) :: _)) => hAL
    rename Above _ ((_, listOf _ _) :: (_, listOf _ _) :: (t, _) :: I) => hAR
    rename (∀ p : Addr × Obj, p ∈ _ ++ (_, listOf _ _) :: _ → p.1 < _) => lD
    refine made_two F9 N9 (fun p hp => hAL _ (.head _) p hp) (fun p hp => Nat.ne_of_lt (lD p hp)) hd0 (by rfl) (of_decide_eq_true (by rfl)) ?_
    intro h' o' F' N' hD'
    walk
    rename OvAt w _ _ (.ref 9 0) => hR2
    rename Above _ ((_, listOf _ _) :: (_, _) :: (_ ++ (_ ++ _))) => hAR2
    rename Fr _ _ _ _ => F9
    rename News _ _ _ _ => N9
    rename (_[way.toNat]? = some _) => hv9
    obtain ⟨es5, c5, rfl⟩ := isDict_lit hD'
    rename (@LT.lt Nat _ t _ ∧ AllLt _ I) => q5
    rename (_ < _ ∧ @LT.lt Nat _ t _ ∧ AllLt _ I) => q4
    rename (_ < _ ∧ AllLt _ (_ ++ (_ ++ (_, listOf _ _) :: _))) => q3
    rename (∀ p : Addr × Obj, p ∈ _ ++ (_, listOf _ _) :: (_, dictOf es5 c5) :: _ → p.1 < _) => q2
    rename (_ < _ ∧ AllLt _ (_ ++ (_, listOf _ _) :: (_, dictOf es5 c5) :: _)) => q1
    obtain rfl | rfl | rfl | rfl | rfl : way = 0 ∨ way = 1 ∨ way = 2 ∨ way = 3 ∨ way = 4 := by omega
    · obtain rfl := Option.some.inj hv9
      exact ⟨rfl, _, _, t, c, vs, ns, nt, nc, k, tkk, oR, oS, oT, _, _, tw, number, tn, FL, fvs, fss, _, [], 0, rfl, F9, newsFront N9 (by k_mem), hLB.mono (fun p hp => mem_rest (by k_mem) (hI p hp)) rest_ne, Cells3.mono (fun p hp => mem_rest (by k_mem) (hI p hp)) ⟨hRI, hSI, hTI, eT, eR, eS⟩, mem_rest (by k_mem) (Ne.symm (Nat.ne_of_lt (q5.1))), .nil⟩
    · obtain rfl := Option.some.inj hv9
      exact ⟨rfl, _, _, t, c, vs, ns, nt, nc, k, tkk, oR, oS, oT, _, _, tw, number, tn, FL, fvs, fss, _, [], 0, rfl, F9, newsFront N9 (by k_mem), hLB.mono (fun p hp => mem_rest (by k_mem) (hI p hp)) rest_ne, Cells3.mono (fun p hp => mem_rest (by k_mem) (hI p hp)) ⟨hRI, hSI, hTI, eT, eR, eS⟩, mem_rest (by k_mem) (Ne.symm (Nat.ne_of_lt (q4.2.1))), .nil⟩
    · obtain rfl := Option.some.inj hv9
      exact ⟨rfl, _, _, t, c, vs, ns, nt, nc, k, tkk, oR, oS, oT, _, _, tw, number, tn, FL, fvs, fss, _, [_, .ref _], 0, rfl, F9, newsFront N9 (by k_mem), hLB.mono (fun p hp => mem_rest (by k_mem) (hI p hp)) rest_ne, Cells3.mono (fun p hp => mem_rest (by k_mem) (hI p hp)) ⟨hRI, hSI, hTI, eT, eR, eS⟩, mem_rest (by k_mem) (Ne.symm (Nat.ne_of_lt (ktn_ltOf q3.2 (t, _) (by k_mem)))), show OvAll w _ _ [.ref 9 0, .dict [Str.ofString "Subtype"] [.name (Str.ofString "Link")]] from .cons (hR1.mono fun p hp => mem_rest (by k_mem) (hAR (t, _) (by k_mem) p hp)) (.cons (.dict (vs := [_]) los (mem_rest (by k_mem) (Ne.symm (Nat.ne_of_lt (lD (t, _) (by k_mem))))) hD' (.refl _) (by decide) (by decide) (by decide) rfl (.cons (hL1.mono fun p hp => mem_rest (by k_mem) (hAL (t, _) (by k_mem) p hp)) .nil)) .nil)⟩
    · obtain rfl := Option.some.inj hv9
      exact ⟨rfl, _, _, t, c, vs, ns, nt, nc, k, tkk, oR, oS, oT, _, _, tw, number, tn, FL, fvs, fss, _, [_], 0, rfl, F9, newsFront N9 (by k_mem), hLB.mono (fun p hp => mem_rest (by k_mem) (hI p hp)) rest_ne, Cells3.mono (fun p hp => mem_rest (by k_mem) (hI p hp)) ⟨hRI, hSI, hTI, eT, eR, eS⟩, mem_rest (by k_mem) (Ne.symm (Nat.ne_of_lt (q2 (t, _) (by k_mem)))), show OvAll w _ _ [.ref 9 0] from .cons (hR2.mono fun p hp => mem_rest (by k_mem) (hAR2 (t, _) (by k_mem) p hp)) .nil⟩
    · obtain rfl := Option.some.inj hv9
      exact ⟨rfl, _, _, t, c, vs, ns, nt, nc, k, tkk, oR, oS, oT, _, _, tw, number, tn, FL, fvs, fss, _, [], 0, rfl, F9, newsFront N9 (by k_mem), hLB.mono (fun p hp => mem_rest (by k_mem) (hI p hp)) rest_ne, Cells3.mono (fun p hp => mem_rest (by k_mem) (hI p hp)) ⟨hRI, hSI, hTI, eT, eR, eS⟩, mem_rest (by k_mem) (Ne.symm (Nat.ne_of_lt (ktn_ltOf q1.2 (t, _) (by k_mem)))), .nil⟩
end
section
set_option maxHeartbeats 8000000 in
theorem stage4 (w : World) {h₀ : Heap} {L fa : Addr} {cd : Value} {loose : List Str} {mean : ExcName → Option Value} {mg mb : Str → Option Value} {m : Str → Option Value} {s0 s1 : Shared} {E : Value → Shared → Prop} (K1 : Below callerA h₀ [] h₀) (X0 : (Mine.hd.heap_39 w.params).In h₀) (T0 : Top Mine.hd.view_39 loose mean mg mb h₀) (hst : St3 w h₀ L m s0 s1) :
    WpL (model PySem.Challenge.rw_pb0480_01.row.prog w) (callerA.deeper (envOfC (Str.ofString "law") lawScope L fa cd)) (execs (lb3.take 2) (envOfC (Str.ofString "law") lawScope L fa cd)) (CutQ (St4 w h₀ L m s0)) E s1 := by
  revert X0
  k_fill
  intro X0
  obtain ⟨h3, tk3, t, c, vs, ns, nt, nc, k, tkk, oR, oS, oT, I, way, tw, number, tn, FL, fvs, fss, EL, els, cE, rfl, F3, N3, hLB, hC3, hEL, hels⟩ := hst
  generalize hsc : lawScope = sc
  generalize hbd : lb3 = bd
  conv at hsc => lhs; whnf
  conv at hbd => lhs; whnf
  subst hsc hbd
  refine WpL.mk ?_
  · dsimp only [List.take]
    have hw0 := hLB.w0
    have hw5 := hLB.w5
    walk
    rename Obj.IsDictOf _ _ [] => hd0
    rename ((_ == sysModules) = false) => los
    rename OvAt w _ _ (.name (Str.ofString "Page")) => hP1
    rename Above _ ((_, _) :: (t, _) :: I) => hAP
    rename (@LT.lt Nat _ t _ ∧ AllLt _ I) => lD
    rename Fr _ _ _ _ => F9
    rename News _ _ _ _ => N9
    refine made_two F9 N9 (fun p hp => hAP _ (.head _) p hp) (fun p hp => Nat.ne_of_lt (ktn_ltOf (show AllLt _ ((t, tapeO c k tkk nt) :: I) from lD) p hp)) hd0 (by rfl) (of_decide_eq_true (by rfl)) ?_
    intro h' o' F' N' hD'
    walk
    · rename (_[way.toNat]? = some _) => hv9
      rename OvAt w _ _ (.ref 1 0) => hR1
      rename Above _ ((_, _) :: (_ ++ (t, _) :: I)) => hAR
      rename (_ < way) => hpos
      rename Fr _ _ _ _ => F8
      rename News _ _ _ _ => N8
      k_dflt (refine kda_set (knd := SK w) F8 (newsFront N8 (by k_mem)) (.head rest_ne) hD' (strKind_is _ _ _ _) (by rw [sizeLine_eq]; exact Nat.le_of_ble_eq_true rfl) ?_)
      intro h6 o6 F6 N6 hD6
      walk
      rename Fr _ _ _ _ => F7
      rename News _ _ _ _ => N7
      obtain ⟨es6, c6, rfl⟩ := isDict_lit hD6
      obtain ⟨I', N7', oI, mI, mR, mN, mh⟩ := head_news N7 hAR hAP lD hLB.off
      clear hAR hAP lD N7
      obtain rfl | rfl | rfl | rfl : way = 1 ∨ way = 2 ∨ way = 3 ∨ way = 4 := by omega
      · obtain rfl := Option.some.inj hv9
        exact ⟨rfl, _, _, t, c, vs, ns, nt, nc, k, tkk, oR, oS, oT, I', _, tw, number, tn, FL, fvs, fss, EL, els, cE, _, _, _, rfl, F7, N7', hLB.mono mI oI, hC3.mono mI, mI _ hEL, OvAll.mono mI hels, mh, hD6, los, Nat.le_of_ble_eq_true rfl, ⟨_, rfl⟩, .inr (.inl ⟨.inl rfl, rfl⟩), show OvAt w _ _ (.dict [Str.ofString "Annots", Str.ofString "Rotate", Str.ofString "Type"] [.arr (elderO 1), .int 90, .name (Str.ofString "Page")]) from .dict (vs := [_, _, _]) los mh hD6 (show List.Perm [(Str.ofString "Type", _), (Str.ofString "Rotate", _), (Str.ofString "Annots", _)] _ from List.reverse_perm [(Str.ofString "Annots", _), (Str.ofString "Rotate", _), (Str.ofString "Type", _)]) (by decide) (by decide) (by decide) rfl (.cons (.arr (mI _ hEL) (OvAll.mono mI hels)) (.cons (.int 90 _) (.cons (hP1.mono mN) .nil))), _, _, hP1.mono mN, .inr ⟨_, rfl⟩⟩
      · obtain rfl := Option.some.inj hv9
        exact ⟨rfl, _, _, t, c, vs, ns, nt, nc, k, tkk, oR, oS, oT, I', _, tw, number, tn, FL, fvs, fss, EL, els, cE, _, _, _, rfl, F7, N7', hLB.mono mI oI, hC3.mono mI, mI _ hEL, OvAll.mono mI hels, mh, hD6, los, Nat.le_of_ble_eq_true rfl, ⟨_, rfl⟩, .inr (.inl ⟨.inr rfl, rfl⟩), show OvAt w _ _ (.dict [Str.ofString "Annots", Str.ofString "Rotate", Str.ofString "Type"] [.arr (elderO 2), .int 90, .name (Str.ofString "Page")]) from .dict (vs := [_, _, _]) los mh hD6 (show List.Perm [(Str.ofString "Type", _), (Str.ofString "Rotate", _), (Str.ofString "Annots", _)] _ from List.reverse_perm [(Str.ofString "Annots", _), (Str.ofString "Rotate", _), (Str.ofString "Type", _)]) (by decide) (by decide) (by decide) rfl (.cons (.arr (mI _ hEL) (OvAll.mono mI hels)) (.cons (.int 90 _) (.cons (hP1.mono mN) .nil))), _, _, hP1.mono mN, .inr ⟨_, rfl⟩⟩
      · obtain rfl := Option.some.inj hv9
        exact ⟨rfl, _, _, t, c, vs, ns, nt, nc, k, tkk, oR, oS, oT, I', _, tw, number, tn, FL, fvs, fss, EL, els, cE, _, _, _, rfl, F7, N7', hLB.mono mI oI, hC3.mono mI, mI _ hEL, OvAll.mono mI hels, mh, hD6, los, Nat.le_of_ble_eq_true rfl, ⟨_, rfl⟩, .inr (.inr (.inl ⟨rfl, _, rfl, hR1.mono mR⟩)), show OvAt w _ _ (.dict [Str.ofString "Annots", Str.ofString "Rotate", Str.ofString "Type"] [.ref 1 0, .int 90, .name (Str.ofString "Page")]) from .dict (vs := [_, _, _]) los mh hD6 (show List.Perm [(Str.ofString "Type", _), (Str.ofString "Rotate", _), (Str.ofString "Annots", _)] _ from List.reverse_perm [(Str.ofString "Annots", _), (Str.ofString "Rotate", _), (Str.ofString "Type", _)]) (by decide) (by decide) (by decide) rfl (.cons (hR1.mono mR) (.cons (.int 90 _) (.cons (hP1.mono mN) .nil))), _, _, hP1.mono mN, .inr ⟨_, rfl⟩⟩
      · obtain rfl := Option.some.inj hv9
        exact ⟨rfl, _, _, t, c, vs, ns, nt, nc, k, tkk, oR, oS, oT, I', _, tw, number, tn, FL, fvs, fss, EL, els, cE, _, _, _, rfl, F7, N7', hLB.mono mI oI, hC3.mono mI, mI _ hEL, OvAll.mono mI hels, mh, hD6, los, Nat.le_of_ble_eq_true rfl, ⟨_, rfl⟩, .inr (.inr (.inr ⟨rfl, _, rfl⟩)), show OvAt w _ _ (.dict [Str.ofString "Annots", Str.ofString "Rotate", Str.ofString "Type"] [.int 5, .int 90, .name (Str.ofString "Page")]) from .dict (vs := [_, _, _]) los mh hD6 (show List.Perm [(Str.ofString "Type", _), (Str.ofString "Rotate", _), (Str.ofString "Annots", _)] _ from List.reverse_perm [(Str.ofString "Annots", _), (Str.ofString "Rotate", _), (Str.ofString "Type", _)]) (by decide) (by decide) (by decide) rfl (.cons (.int 5 _) (.cons (.int 90 _) (.cons (hP1.mono mN) .nil))), _, _, hP1.mono mN, .inr ⟨_, rfl⟩⟩
    · rename Fr _ _ _ _ => F7
      rename News _ _ _ _ => N7
      obtain rfl : way = 0 := by omega
      obtain ⟨es6, c6, rfl⟩ := isDict_lit hD'
      obtain ⟨I', N7', oI, mI, mN, mh⟩ := head_news0 N7 hAP lD hLB.off
      exact ⟨rfl, _, _, t, c, vs, ns, nt, nc, k, tkk, oR, oS, oT, I', _, tw, number, tn, FL, fvs, fss, EL, els, cE, _, _, _, rfl, F7, N7', hLB.mono mI oI, hC3.mono mI, mI _ hEL, OvAll.mono mI hels, mh, hD', los, Nat.le_of_ble_eq_true rfl, ⟨_, rfl⟩, .inl ⟨rfl, rfl⟩, show OvAt w _ _ (.dict [Str.ofString "Rotate", Str.ofString "Type"] [.int 90, .name (Str.ofString "Page")]) from .dict (vs := [_, _]) los mh hD' (show List.Perm [(Str.ofString "Type", _), (Str.ofString "Rotate", _)] _ from List.reverse_perm [(Str.ofString "Rotate", _), (Str.ofString "Type", _)]) (by decide) (by decide) (by decide) rfl (.cons (.int 90 _) (.cons (hP1.mono mN) .nil)), _, _, hP1.mono mN, .inl rfl⟩
end
section
set_option maxHeartbeats 8000000 in
theorem stage5 (w : World) {h₀ : Heap} {L fa : Addr} {cd : Value} {loose : List Str} {mean : ExcName → Option Value} {mg mb : Str → Option Value} {m : Str → Option Value} {s0 s1 : Shared} {E : Value → Shared → Prop} (K1 : Below callerA h₀ [] h₀) (X0 : (Mine.hd.heap_39 w.params).In h₀) (T0 : Top Mine.hd.view_39 loose mean mg mb h₀) (hst : St4 w h₀ L m s0 s1) :
    WpL (model PySem.Challenge.rw_pb0480_01.row.prog w) (callerA.deeper (envOfC (Str.ofString "law") lawScope L fa cd)) (execs (lb4.take 1) (envOfC (Str.ofString "law") lawScope L fa cd)) (CutQ (St5 w h₀ L m s0)) E s1 := by
  revert X0
  k_fill
  intro X0
  obtain ⟨h4, tk4, t, c, vs, ns, nt, nc, k, tkk, oR, oS, oT, I, way, tw, number, tn, FL, fvs, fss, EL, els, cE, hd, oh, hkvs, rfl, F4, N4, hLB, hC3, hEL, hels, hH⟩ := hst
  generalize hsc : lawScope = sc
  generalize hbd : lb4 = bd
  conv at hsc => lhs; whnf
  conv at hbd => lhs; whnf
  subst hsc hbd
  refine WpL.mk ?_
  · dsimp only [List.take]
    have hlz : els.length < 1000 := by rw [hels.len]; unfold elderO; split <;> (try split) <;> decide
    have fn4 : ∀ (a : Addr) o o', (a, o) ∈ I → (a, o') ∈ I → o = o' := fun a o o' h1 h2 => newsFn N4 (.tail _ h1) (.tail _ h2)
    walk
    rename_i dT hA oT0 loT hdT lD E1 c1 hB lE1 T1 hC lT1 T2 hDd lT2 d9 hE o9 lo9 hs9 fs9 hi9 fi9 l9 T9 hF F9 N9 lT9
    refine made_five F9 N9 (Nat.ne_of_gt lT9.2.2.2.2.1) (Nat.ne_of_gt l9.2.2.2.1) (Nat.ne_of_gt lT2.2.2.1) (Nat.ne_of_gt lT1.2.1) (Nat.ne_of_gt lE1.1) (fun p hp => Nat.ne_of_lt (ktn_ltOf (show AllLt _ ((t, tapeO c k tkk nt) :: I) from lD) p hp)) hdT (by rfl) (nd_three hLB.m3 hLB.m5) ?_
    intro h' o' F' N' hD'
    walk
    rename_i dR hG oR0 F8 N8x loR hsR fsR hiR fiR lR h9 tk9 F9' sh tl9 hS9 hA9 N9'
    obtain ⟨hc3, hc2, hc1, hoT, hoR, hoS⟩ := hC3
    refine storeC F9' N9' (by rfl) (inR (.tail _ (.tail _ (.tail _ (.tail _ (.tail _ (.tail _ (.tail _ (.tail _ hc2))))))))) hoS ?_ (by rfl) (by rfl)
    intro h6 oS6 F6 N6 hoS6
    obtain ⟨es9, c9, rfl⟩ := isDict_lit hs9
    obtain ⟨esR, cR, rfl⟩ := isDict_lit hsR
    obtain ⟨J, N7, hO, hin, hkp, hKJ, jR, j1, j2, j3, j4, j5⟩ := shelf_news7 fn4 N6 hA9 ⟨lR.2.2.2.2.2.2.1, lR.1, lR.2.2.2.2.2.2.2⟩ ⟨lT9.2.2.2.2.2.1, lT9.2.2.2.2.1, lT9.2.2.2.2.2.2⟩ ⟨l9.2.2.2.2.1, l9.2.2.2.1, l9.2.2.2.2.2⟩ ⟨lT2.2.2.2.1, lT2.2.2.1, lT2.2.2.2.2⟩ ⟨lT1.2.2.1, lT1.2.1, lT1.2.2.2⟩ ⟨lE1.2.1, lE1.1, lE1.2.2⟩ hLB.off lD hc3 hc2 hoR hoS
    clear hA9 lR lT9 l9 lT2 lT1 lE1 lD N6
    (try dsimp only [qk])
    walk
    exact ⟨rfl, _, _, t, c, vs, ns, nt, nc, k, tkk, oR, oS6, oT, J, way, tw, number, tn, FL, fvs, fss, EL, els, cE, hd, oh, hkvs, sh, dT, _, _, rfl, F6, N7, hO, hoR, hoS6, hin _ hc1 (fun e => absurd (Nat.succ.inj e) (Nat.ne_of_lt (Nat.lt_succ_self _))) (fun e => absurd (Nat.succ.inj e) (Nat.ne_of_lt (Nat.lt_succ_of_lt (Nat.lt_succ_self _)))), hoT, hLB.drop hkp hO.jt, hkp _ hEL ncLst, hels.drop hkp, hH.drop hkp, dR, _, _, _, E1, _, _, hS9.mono hKJ, rfl, (show o'.IsDictOf (IK w) [(1, .ref T1), (number, .ref T2), (9, .ref T9)] from hD'), loT, ⟨T1, _, _, rfl, j4⟩, j5, ⟨T2, _, _, rfl, j3⟩, ⟨T9, _, _, rfl, j1⟩, .dict (ks := []) (vs := []) lo9 j2 hs9 .nil (by decide) (by decide) (by decide) rfl .nil, .dict (ks := []) (vs := []) loR jR hsR .nil (by decide) (by decide) (by decide) rfl .nil⟩
end
section
set_option maxHeartbeats 8000000 in
theorem stage6 (w : World) {h₀ : Heap} {L fa : Addr} {cd : Value} {loose : List Str} {mean : ExcName → Option Value} {mg mb : Str → Option Value} {m : Str → Option Value} {s0 s1 : Shared} {E : Value → Shared → Prop} (K1 : Below callerA h₀ [] h₀) (X0 : (Mine.hd.heap_39 w.params).In h₀) (T0 : Top Mine.hd.view_39 loose mean mg mb h₀) (hst : St5 w h₀ L m s0 s1) :
    WpL (model PySem.Challenge.rw_pb0480_01.row.prog w) (callerA.deeper (envOfC (Str.ofString "law") lawScope L fa cd)) (execs (lb5.take 1) (envOfC (Str.ofString "law") lawScope L fa cd)) (CutQ (St6 w h₀ L m s0)) E s1 := by
  revert X0
  k_fill
  intro X0
  obtain ⟨h5, tk5, t, c, vs, ns, nt, nc, k, tkk, oR, oS, oT, J, way, tw, number, tn, FL, fvs, fss, EL, els, cE, hd, oh, hkvs, sh, tb, ot, kvs, rfl, F5, N5, hO, hoR, hoS, hcT, hoT, hLB, hEL, hels, hH, hSH⟩ := hst
  generalize hsc : lawScope = sc
  generalize hbd : lb5 = bd
  conv at hsc => lhs; whnf
  conv at hbd => lhs; whnf
  subst hsc hbd
  refine WpL.mk ?_
  · dsimp only [List.take]
    have hw0 := hLB.w0
    have hw5 := hLB.w5
    have hm3 := hLB.m3
    have hm5 := hLB.m5
    obtain ⟨tr, e1, e2, e9, E1, c1, d9, hS, _⟩ := id hSH
    obtain ⟨da, g1, g2, u1, u2, hs1, hs2⟩ := id hS
    walk
    rename DatIn _ _ (shelfD _) => hD9
    rename Above _ ((t, _) :: _) => hA9
    rename Fr _ _ _ _ => F9
    rename News _ _ _ _ => N9
    exact ⟨rfl, _, _, t, c, vs, ns, nt, nc, k, tkk, oR, oS, oT, _, way, tw, number, tn, FL, fvs, fss, EL, els, cE, hd, oh, hkvs, sh, tb, ot, kvs, _, rfl, F9, news_tl4 N9, hO.grow hA9, hoR, hoS, inR hcT, hoT, hLB.mono (fun p hp => inR hp) (hO.grow hA9).jt, inR hEL, OvAll.mono (fun p hp => inR hp) hels, hH.mono (fun p hp => inR hp), hSH.mono (fun p hp => inR hp), DatIn.mono (fun p hp => inL hp) hD9⟩
end
section
set_option maxHeartbeats 8000000 in
theorem stage7 (w : World) {h₀ : Heap} {L fa : Addr} {cd : Value} {loose : List Str} {mean : ExcName → Option Value} {mg mb : Str → Option Value} {m : Str → Option Value} {s0 s1 : Shared} {E : Value → Shared → Prop} (K1 : Below callerA h₀ [] h₀) (X0 : (Mine.hd.heap_39 w.params).In h₀) (T0 : Top Mine.hd.view_39 loose mean mg mb h₀) (hst : St6 w h₀ L m s0 s1) :
    WpL (model PySem.Challenge.rw_pb0480_01.row.prog w) (callerA.deeper (envOfC (Str.ofString "law") lawScope L fa cd)) (execs (lb6.take 2) (envOfC (Str.ofString "law") lawScope L fa cd)) (CutQ (St8 w h₀ L m s0)) E s1 := by
  revert X0
  k_fill
  intro X0
  obtain ⟨h6, tk6, t, c, vs, ns, nt, nc, k, tkk, oR, oS, oT, J, way, tw, number, tn, FL, fvs, fss, EL, els, cE, hd, oh, hkvs, sh, tb, ot, kvs, ba, rfl, F6, N6, hO, hoR, hoS, hcT, hoT, hLB, hEL, hels, hH, hSH, hBA⟩ := hst
  generalize hsc : lawScope = sc
  generalize hbd : lb6 = bd
  conv at hsc => lhs; whnf
  conv at hbd => lhs; whnf
  subst hsc hbd
  refine WpL.mk ?_
  · dsimp only [List.take]
    have hfl := hLB.hfr.len
    have hfz := hLB.hfl
    walk
    k_dflt (refine LCg.Assign_ListComp_U (F₀ := by k_asm) (by rfl) (by rfl) (by with_unfolding_all rfl) (by decide) (by rfl) (by decide) (by rfl) (by rfl) (by rfl) ?_)
    walk
    rename Fr _ _ _ _ => F7
    rename News _ _ _ _ => N7
    refine comp_mapAF FindQ (fun _ _ _ _ s h => FindAt.mono s h) fss rfl F7 N7 (.tail _ (.tail _ (.tail _ (.tail _ hLB.hFL)))) (by omega) hfl ?_ ?_
    · intro g j v q tl8 ys8 I oI C oC D m₂ h tk E' hv hq hC hx F2 N2 ne
      obtain ⟨ra, rvs, rfl, hra, hrr, hrl⟩ := hLB.hfr.get hv hq
      have hrz := hrr.len
      rw [List.length_cons] at hrz
      walk
      k_dflt (refine LCg.ListComp_U (F₀ := by k_asm) (by rfl) (by decide) (by rfl) (by decide) (by rfl) ?_)
      walk
      rename Fr _ _ _ _ => F3
      rename News _ _ _ _ => N3
      refine comp_mapF BoxAt (fun _ _ _ _ s h => BoxAt.mono s h) (q.1 :: q.2) rfl F3 N3 (three_in _ (inR (.tail _ (.tail _ (.tail _ (.tail _ hra)))))) (by omega) hrr.len ?_ ?_
      · intro g2 j2 v2 f tl7 ys7 I2 oI2 C2 oC2 D2 m₃ h3 tk3 E3 hv2 hf2 hC2 hx2 F4 N4 ne2
        obtain ⟨fa, fc, t1, t2, t3, t4, rfl, hfa⟩ := hrr.get hv2 hf2
        walk
        k_dflt (refine eval_blockF (by k_asm) (by rfl) (by rfl) (by decide) ?_ (by intro _; rfl))
        walk
        rename Fr _ _ _ _ => F5
        rename News _ _ _ _ => N5
        refine tup_mapF DecAt (fun _ _ _ _ s h => DecAt.mono s h) [f.1, f.2.1, f.2.2.1, f.2.2.2] (by rfl) (by decide) (by rfl) (by rfl) F5 N5 (three_in _ (inR (three_in _ (inR (.tail _ (.tail _ (.tail _ (.tail _ hfa)))))))) (by simp) rfl ?_ (fun I g hOK => ⟨I, _, rfl, hOK, ?_⟩)
        · intro j3 v3 d3 tl6 ys6 I3 oI3 C3 oC3 D3 m₄ h4 tk4 E4 hv3 hd3 hC3 hx3 F7 N7 ne3
          obtain ⟨t9, rfl⟩ := intsAre_get (.cons _ _ (.cons _ _ (.cons _ _ (.cons _ _ .nil)))) hv3 hd3
          walk
          rename Above _ (Three I3 _ _ _ _ _ _) => a9
          rename DecAt _ _ _ => d9
          exact EltEnd.ofF (by k_asm) (by k_asm) a9 (fun p hp => three_in p (inR hp)) d9
        rintro ys5 nn5 D5 h5 tk5 ⟨tl5, rfl, hA5, hd5⟩ F5 N5 off5
        have hz5 := hd5.len
        rw [List.length_cons, List.length_cons, List.length_cons, List.length_cons, List.length_nil] at hz5
        walk
        (try k_unfold)
        rename (_ < _ ∧ AllLt _ _) => l9
        rename Fr _ _ _ _ => F9
        rename News _ _ _ _ => N9
        exact EltEnd.twoF (tl9 := [_]) F9 N9 hA5 off5 (above_one (N := (D5, LCg.lst ys5) :: (tl5 ++ _)) l9) (fun p hp => three_in p (inR hp)) (box_of_decs (.head _) (AllR.monoR (fun _ _ h => DecAt.mono (fun p hp => .tail _ (.tail _ hp)) h) hd5))
      · intro g3 D4 h4 tk4 tl4 ys4 F4 N4 hA4 hD4 hR4
        have hb4 : AllR BoxAt ((D4, LCg.lst ys4) :: tl4) ys4 (q.1 :: q.2) := allBox (fun p hp => .tail _ hp) hR4
        have hs4 := cons_sub (q := (D4, LCg.lst ys4)) (tl := tl4) N4
        walk
        rename FindAt _ _ _ => hF9
        rename Above _ ((D4, _) :: _) => hA9
        rename Fr _ _ _ _ => F9
        rename News _ _ _ _ => N9
        exact EltEnd.twoF F9 N9 hA4 hD4 hA9 (fun p hp => three_in p (inR hp)) hF9
    · intro g FD h7 tk7 tl7 fds F7 N7 hA7 hD7 hf7
      walk
      rename OvAt w _ _ (.ref number 2) => hR9
      rename Above _ ((FD, _) :: _) => hA9
      rename Fr _ _ _ _ => F9
      rename News _ _ _ _ => N9
      obtain ⟨rx, rfl⟩ := ov_ref hR9
      refine storeC F9 N9 (by rfl) (inR (.tail _ (inR (.tail _ (.tail _ (.head _)))))) hoR ?_ (by rfl) (by rfl)
      intro h8 oR8 F8 N8 hoR8
      obtain ⟨M, NM, hMt, hMb, hMX, hMJ, hMR, hMS⟩ := ref_news N8 (above_mid hA7 hD7 hA9) hO
      clear N8 N9
      walk
      rename Fr _ _ _ _ => F9
      exact ⟨rfl, _, _, t, c, vs, ns, nt, nc, k, tkk, M, way, tw, number, tn, FL, fvs, fss, EL, els, cE, hd, oh, hkvs, sh, tb, ot, kvs, ba, FD, fds, rx, rfl, F9, NM, hO.bt, hMb, hLB.mono hMJ hMt, ⟨_, hMJ _ hcT, hoT⟩, ⟨_, hMS, hoS⟩, ⟨_, hMR, hoR8⟩, hMJ _ hEL, OvAll.mono hMJ hels, hH.mono hMJ, hSH.mono hMJ, DatIn.mono hMJ hBA, hMX _ (inR (.head _)), AllR.monoR (R := FindQ) (fun _ _ h => FindAt.mono (fun p hp => hMX _ (inR (.tail _ hp))) h) hf7, hR9.mono fun p hp => hMX _ (inL hp)⟩
end
section
set_option maxHeartbeats 8000000 in
theorem stage8 (w : World) {h₀ : Heap} {L fa : Addr} {cd : Value} {loose : List Str} {mean : ExcName → Option Value} {mg mb : Str → Option Value} {m : Str → Option Value} {s0 s1 : Shared} {E : Value → Shared → Prop} {Q : Flow → Shared → Prop} {t c : Addr} {vs : List Value} {ns : List Int} {nt nc : Nat} {k : Int} {tkk : Tok} {M : Led} {way : Int} {tw : Tok} {number : Int} {tn : Tok} {FL : Addr} {fvs : List Value} {fss : List (Four × List Four)} {EL : Addr} {els : List Value} {cE : Nat} {hd : Addr} {oh : Obj} {hkvs : List (Str × Value)} {sh tb : Addr} {ot : Obj} {kvs : List (Int × Value)} {ba FD : Addr} {fds : List Value} {rx : Addr} (K1 : Below callerA h₀ [] h₀) (X0 : (Mine.hd.heap_39 w.params).In h₀) (T0 : Top Mine.hd.view_39 loose mean mg mb h₀) (F8 : Fr h₀ L s1.heap (fun y => if y = Str.ofString "finds" then some (.ref FD) else if y = Str.ofString "before" then some (.ref ba) else if y = Str.ofString "head" then some (.ref hd) else if y = Str.ofString "elder" then some (.ref EL) else if y = Str.ofString "number" then some (.int number tn) else if y = Str.ofString "fours" then some (.ref FL) else if y = Str.ofString "way" then some (.int way tw) else m y)) (N8 : News h₀ L s1.heap ((tb, ot) :: (t, tapeO c k tkk nt) :: M)) (hM : LM w L t tb c vs ns nc k way number FL fvs fss EL els cE hd oh hkvs sh ot kvs ba FD fds rx M) (hway : way = 4) (hQ : ∀ h' tk' m' N', Fr h₀ L h' m' → News h₀ L h' N' → Q (.ret (.bool true)) (⟨h', s1.gens, s1.drawn, tk', s1.os⟩ : Shared)) :
    WpL (model PySem.Challenge.rw_pb0480_01.row.prog w) (callerA.deeper (envOfC (Str.ofString "law") lawScope L fa cd)) (execs lb7 (envOfC (Str.ofString "law") lawScope L fa cd)) Q E s1 := by
  revert X0
  k_fill
  intro X0
  generalize hsc : lawScope = sc
  generalize hbd : lb7 = bd
  conv at hsc => lhs; whnf
  conv at hbd => lhs; whnf
  subst hsc hbd
  refine WpL.mk ?_
  · subst hway
    have hX := law_bad (tapeO c k tkk nt) hM
    obtain ⟨hbt, hmb, hLB, ⟨oT, hcT, hoT⟩, ⟨oS, hcS, hoS⟩, ⟨oR, hcR, hoR⟩, hEL, hels, hH, hSH, hBA, hFD, hFQ, hRX⟩ := hM
    obtain ⟨tr, e1, e2, e9, E1, c1, d9, hS, _⟩ := id hSH
    obtain ⟨da, g1, g2, u1, u2, hs1, hs2⟩ := id hS
    obtain ⟨_, hc, hct, hv, hn0, hn40, hk0, hk40, hw0, hw5, hm3, hm5, _, _, _⟩ := id hLB
    have hk60 : k ≤ 60 := by omega
    walk
    rename DatIn _ _ (shelfD _) => hD9
    rename News _ _ _ _ => N9
    refine eq_same (d := shelfD (rowsO 4 number)) N9 (DatIn.mono (fun p hp => inL hp) hD9) (DatIn.mono (fun p hp => inR (.tail _ (.tail _ hp))) hBA) (kqd_rows hw0 hw5) (by ktr_units) ?_
    walk
    exact hQ _ _ _ _ (by k_asm) (by k_asm)
end
section
set_option maxHeartbeats 8000000 in
theorem stage9 (w : World) {h₀ : Heap} {L fa : Addr} {cd : Value} {loose : List Str} {mean : ExcName → Option Value} {mg mb : Str → Option Value} {m : Str → Option Value} {s0 s1 : Shared} {E : Value → Shared → Prop} {t c : Addr} {vs : List Value} {ns : List Int} {nt nc : Nat} {k : Int} {tkk : Tok} {M : Led} {way : Int} {tw : Tok} {number : Int} {tn : Tok} {FL : Addr} {fvs : List Value} {fss : List (Four × List Four)} {EL : Addr} {els : List Value} {cE : Nat} {hd : Addr} {oh : Obj} {hkvs : List (Str × Value)} {sh tb : Addr} {ot : Obj} {kvs : List (Int × Value)} {ba FD : Addr} {fds : List Value} {rx : Addr} (K1 : Below callerA h₀ [] h₀) (X0 : (Mine.hd.heap_39 w.params).In h₀) (T0 : Top Mine.hd.view_39 loose mean mg mb h₀) (F8 : Fr h₀ L s1.heap (fun y => if y = Str.ofString "finds" then some (.ref FD) else if y = Str.ofString "before" then some (.ref ba) else if y = Str.ofString "head" then some (.ref hd) else if y = Str.ofString "elder" then some (.ref EL) else if y = Str.ofString "number" then some (.int number tn) else if y = Str.ofString "fours" then some (.ref FL) else if y = Str.ofString "way" then some (.int way tw) else m y)) (N8 : News h₀ L s1.heap ((tb, ot) :: (t, tapeO c k tkk nt) :: M)) (hM : LM w L t tb c vs ns nc k way number FL fvs fss EL els cE hd oh hkvs sh ot kvs ba FD fds rx M) (hway : way ≠ 4) :
    WpL (model PySem.Challenge.rw_pb0480_01.row.prog w) (callerA.deeper (envOfC (Str.ofString "law") lawScope L fa cd)) (execs (lb7.take 2) (envOfC (Str.ofString "law") lawScope L fa cd)) (CutQ (St10 w tb hd ot kvs hkvs els number ((t, tapeO c k tkk nt) :: M) fss h₀ L (fun y => if y = Str.ofString "finds" then some (.ref FD) else if y = Str.ofString "before" then some (.ref ba) else if y = Str.ofString "head" then some (.ref hd) else if y = Str.ofString "elder" then some (.ref EL) else if y = Str.ofString "number" then some (.int number tn) else if y = Str.ofString "fours" then some (.ref FL) else if y = Str.ofString "way" then some (.int way tw) else m y) s1)) E s1 := by
  revert X0
  k_fill
  intro X0
  generalize hsc : lawScope = sc
  generalize hbd : lb7 = bd
  conv at hsc => lhs; whnf
  conv at hbd => lhs; whnf
  subst hsc hbd
  refine WpL.mk ?_
  have hP := law_put (tapeO c k tkk nt) hway hM
  · dsimp only [List.take]
    obtain ⟨_, _, hLB, _, ⟨oS, hcS, hoS⟩, ⟨oR, hcR, hoR⟩, _, _, _, _, _, _, _, _⟩ := hM
    have hw0 := hLB.w0
    have hw5 := hLB.w5
    walk
    rename Fr _ _ _ _ => F9
    rename News _ _ _ _ => N9
    rename PutOut _ _ _ _ _ _ _ _ _ _ _ _ => hO9
    exact ⟨rfl, _, _, _, rfl, F9, N9, hO9⟩
end
section
set_option maxHeartbeats 8000000 in
theorem stage10 (w : World) {h₀ : Heap} {L fa : Addr} {cd : Value} {loose : List Str} {mean : ExcName → Option Value} {mg mb : Str → Option Value} {m : Str → Option Value} {s0 s1 : Shared} {E : Value → Shared → Prop} {Q : Flow → Shared → Prop} {t c : Addr} {vs : List Value} {ns : List Int} {nt nc : Nat} {k : Int} {tkk : Tok} {M : Led} {way : Int} {tw : Tok} {number : Int} {tn : Tok} {FL : Addr} {fvs : List Value} {fss : List (Four × List Four)} {EL : Addr} {els : List Value} {cE : Nat} {hd : Addr} {oh : Obj} {hkvs : List (Str × Value)} {sh tb : Addr} {ot : Obj} {kvs : List (Int × Value)} {ba FD : Addr} {fds : List Value} {rx : Addr} (K1 : Below callerA h₀ [] h₀) (X0 : (Mine.hd.heap_39 w.params).In h₀) (T0 : Top Mine.hd.view_39 loose mean mg mb h₀) (hM : LM w L t tb c vs ns nc k way number FL fvs fss EL els cE hd oh hkvs sh ot kvs ba FD fds rx M) {N9 : Led} (F9 : Fr h₀ L s1.heap (fun y => if y = Str.ofString "finds" then some (.ref FD) else if y = Str.ofString "before" then some (.ref ba) else if y = Str.ofString "head" then some (.ref hd) else if y = Str.ofString "elder" then some (.ref EL) else if y = Str.ofString "number" then some (.int number tn) else if y = Str.ofString "fours" then some (.ref FL) else if y = Str.ofString "way" then some (.int way tw) else m y)) (Nw9 : News h₀ L s1.heap N9) (hO9 : PutOut w tb hd ot kvs hkvs els number 2 ((t, tapeO c k tkk nt) :: M) fss N9) (hne : fss = []) (hQ : ∀ h' tk' m' N', Fr h₀ L h' m' → News h₀ L h' N' → Q (.ret (.bool true)) (⟨h', s1.gens, s1.drawn, tk', s1.os⟩ : Shared)) :
    WpL (model PySem.Challenge.rw_pb0480_01.row.prog w) (callerA.deeper (envOfC (Str.ofString "law") lawScope L fa cd)) (execs lb9 (envOfC (Str.ofString "law") lawScope L fa cd)) Q E s1 := by
  revert X0
  k_fill
  intro X0
  generalize hsc : lawScope = sc
  generalize hbd : lb9 = bd
  conv at hsc => lhs; whnf
  conv at hbd => lhs; whnf
  subst hsc hbd
  refine WpL.mk ?_
  · subst hne
    obtain ⟨ot', kvs', tl, rfl, hoff, hA, hD', hnil, _⟩ := hO9
    obtain ⟨rfl, rfl⟩ := hnil rfl
    obtain ⟨hbt, hmb, hLB, ⟨oT, hcT, hoT⟩, ⟨oS, hcS, hoS⟩, ⟨oR, hcR, hoR⟩, hEL, hels, hH, hSH, hBA, hFD, hFQ, hRX⟩ := hM
    cases hFQ
    obtain ⟨tr, e1, e2, e9, E1, c1, d9, hS, _⟩ := id hSH
    obtain ⟨da, g1, g2, u1, u2, hs1, hs2⟩ := id hS
    obtain ⟨_, hc, hct, hv, hn0, hn40, hk0, hk40, hw0, hw5, hm3, hm5, _, _, _⟩ := id hLB
    have hk60 : k ≤ 60 := by omega
    walk
    k_dflt (refine eq_nil_mem (by k_asm) (by k_mem) (by k_mem) (by ktr_units) ?_)
    walk
    rename DatIn _ _ (shelfD _) => hD9
    rename News _ _ _ _ => N9
    refine eq_same (d := shelfD (rowsO way number)) N9 (DatIn.mono (fun p hp => inL hp) hD9) (DatIn.mono (fun p hp => by k_mem) hBA) (kqd_rows hw0 hw5) (by ktr_units) ?_
    walk
    exact hQ _ _ _ _ (by k_asm) (by k_asm)
end
section
local macro_rules | `(tactic| walk) => `(tactic| repeat' (first | ((fail_if_success (first | (with_reducible show wpAny _ _ (subscriptTail _ (PySem.Expr.Name _ _) (Value.ref _) (Value.int _ _)) _ _ _) | (with_reducible show wpAny _ _ (subscriptTail _ _ (Value.ref _) (Value.str _ _)) _ _ _) | (with_reducible show wpAny _ _ (call (Value.ref 312) _) _ _ _) | (with_reducible show wpAny _ _ (compareOp _ (Value.ref _) (Value.ref _)) _ _ _) | (with_reducible show EltEnd _ _ _ _ _ _ _ _ _ _) | (with_reducible show LCt.CompSrcT _ _ _ _ _ _ _ _ _ _ _ _ _ _ _) | (with_reducible show LCg.CompSrc _ _ _ _ _ _ _ _ _ _ _ _ _ _) | (with_reducible show LCg.CompEnd _ _ _ _ _ _ _ _ _ _ _ _ _ _) | (with_reducible show LCg.FinE _ _ _ _ _ _ _) | (with_reducible show LCg.FinA _ _ _ _ _ _ _ _) | (with_reducible show TurnEnd _ _ _ _ _ _ _ _ _) | (with_reducible show wpAny _ _ (pyIter _) _ _ _) | (with_reducible show wpAny _ _ (exec (Stmt.For _ _ _ _ _) _) _ _ _) | (with_reducible show wpAny _ _ (eval (Expr.ListComp _ _ _ _) _) _ _ _) | (with_reducible show wpAny _ _ (exec (Stmt.Assign _ (Expr.ListComp _ _ _ _) _) _) _ _ _))); (first | (k_unfold; (try dsimp only)) | (k_end; wrow_close) | walk1 | (dsimp only; walk1) | (leave1; walk_say "STEP leave1"; try dsimp only))) | fail "no step"))
set_option maxHeartbeats 8000000 in
theorem stage11 (w : World) {h₀ : Heap} {L fa : Addr} {cd : Value} {loose : List Str} {mean : ExcName → Option Value} {mg mb : Str → Option Value} {m : Str → Option Value} {s0 s1 : Shared} {E : Value → Shared → Prop} {Q : Flow → Shared → Prop} {t c : Addr} {vs : List Value} {ns : List Int} {nt nc : Nat} {k : Int} {tkk : Tok} {M : Led} {way : Int} {tw : Tok} {number : Int} {tn : Tok} {FL : Addr} {fvs : List Value} {fss : List (Four × List Four)} {EL : Addr} {els : List Value} {cE : Nat} {hd : Addr} {oh : Obj} {hkvs : List (Str × Value)} {sh tb : Addr} {ot : Obj} {kvs : List (Int × Value)} {ba FD : Addr} {fds : List Value} {rx : Addr} (K1 : Below callerA h₀ [] h₀) (X0 : (Mine.hd.heap_39 w.params).In h₀) (T0 : Top Mine.hd.view_39 loose mean mg mb h₀) (hM : LM w L t tb c vs ns nc k way number FL fvs fss EL els cE hd oh hkvs sh ot kvs ba FD fds rx M) {N9 : Led} (F9 : Fr h₀ L s1.heap (fun y => if y = Str.ofString "finds" then some (.ref FD) else if y = Str.ofString "before" then some (.ref ba) else if y = Str.ofString "head" then some (.ref hd) else if y = Str.ofString "elder" then some (.ref EL) else if y = Str.ofString "number" then some (.int number tn) else if y = Str.ofString "fours" then some (.ref FL) else if y = Str.ofString "way" then some (.int way tw) else m y)) (Nw9 : News h₀ L s1.heap N9) (hO9 : PutOut w tb hd ot kvs hkvs els number 2 ((t, tapeO c k tkk nt) :: M) fss N9) (hne : fss ≠ []) (hQ : ∀ h' tk' m' N', Fr h₀ L h' m' → News h₀ L h' N' → Q (.ret (.bool true)) (⟨h', s1.gens, s1.drawn, tk', s1.os⟩ : Shared)) :
    WpL (model PySem.Challenge.rw_pb0480_01.row.prog w) (callerA.deeper (envOfC (Str.ofString "law") lawScope L fa cd)) (execs lb9 (envOfC (Str.ofString "law") lawScope L fa cd)) Q E s1 := by
  revert X0
  k_fill
  intro X0
  generalize hsc : lawScope = sc
  generalize hbd : lb9 = bd
  conv at hsc => lhs; whnf
  conv at hbd => lhs; whnf
  subst hsc hbd
  refine WpL.mk ?_
  · obtain ⟨ot', kvs', M1, fd, of, hv, ev, e1, a, E1, frs, ca, c1, rfl, hP⟩ := put_facts Nw9 hne hM hO9
    obtain ⟨hbt, hmb, hLB, ⟨oT, hcT, hoT⟩, ⟨oS, hcS, hoS⟩, ⟨oR, hcR, hoR⟩, hEL, hels, hH, hSH, hBA, hFD, hFQ, hRX⟩ := hM
    have sM : ∀ p ∈ M, p ∈ M1 := fun p hp => hP.sub p (.tail _ hp)
    obtain ⟨tr, _, _, _, _, _, _, hS, _, _, lo, _⟩ := id hSH
    replace hS := hS.mono sM
    obtain ⟨da, g1, g2, u1, u2, hs1, hs2⟩ := id hS
    obtain ⟨_, hc, hct, hvs, hn0, hn40, hk0, hk40, hw0, hw5, hm3, hm5, hFL, hfr, hfl⟩ := hLB
    have hk60 : k ≤ 60 := by omega
    have hty := hP.sub _ (.head _)
    replace hc := sM _ hc
    replace hcT := sM _ hcT
    replace hcS := sM _ hcS
    replace hcR := sM _ hcR
    replace hEL := sM _ hEL
    replace hFL := sM _ hFL
    replace hFD := sM _ hFD
    replace hels := OvAll.mono sM hels
    replace hRX := hRX.mono sM
    replace hfr : AllR RowR M1 fvs fss := AllR.monoR (fun _ _ h => RowR.mono sM h) hfr
    have hFr := put_fetch hP lo hRX
    have hfdl := hFQ.len
    have he : fds.isEmpty = false := by
      cases fds with
      | nil => exact absurd (List.eq_nil_of_length_eq_zero hfdl.symm) hne
      | cons _ _ => rfl
    have helz : els.length ≤ 2 := by rw [hels.len]; exact elder_len way
    have hfrl := hP.fresh.len
    have hfvl := hfr.len
    clear hO9 hH hSH hBA hFQ sM hmb
    have hfdm := hP.fdm
    have hrow := hP.row
    walk
    k_dflt (refine eq_nil_mem (by k_asm) (by k_mem) (by k_mem) (by ktr_units) ?_)
    rw [he]
    walk
    rename News _ _ _ _ => Nx
    replace Nx := newsSub (N' := (tb, ot') :: M1) Nx (by intro p hp; k_mem)
    repeat (rename (_ < _ ∧ _) => lz; clear lz)
    rename Above _ ((_, _) :: _) => lz
    clear lz
    k_dflt (refine dget_mem Nx (.tail _ hfdm) hP.fdd hP.ann ?_)
    walk
    rename News _ _ _ _ => Nx
    replace Nx := news_take Nx
    k_dflt (refine' Tell.use (told_tell _ (OvAt.arr (.head _) (OvAll.mono ?ks hels)) (fine_elder hw0 hw5)) ?k1 ?k2 ?k3 ?k4 ?k5 ?kK ?kd ?ku ?_; (case k1 => k_asm); (case k2 => k_asm); (case k3 => k_asm); (case k4 => k_asm); (case k5 => k_asm); (case kK => first | exact rfl | assumption); (case kd => ktr_room); (case ku => ktr_units); (case ks => intro p hp; k_mem))
    rintro r1 N1 h1 tk1 F1 Nx1 ⟨tl1, hT1, rfl, hA1⟩
    obtain ⟨b1, rfl⟩ := dat_ref hT1
    (try dsimp only)
    (try k_fold)
    walk
    k_dflt (refine' Tell.use (told_tell _ (OvAt.mono ?ks (.arr hEL hels)) (fine_elder hw0 hw5)) ?k1 ?k2 ?k3 ?k4 ?k5 ?kK ?kd ?ku ?_; (case k1 => k_asm); (case k2 => k_asm); (case k3 => k_asm); (case k4 => k_asm); (case k5 => k_asm); (case kK => first | exact rfl | assumption); (case kd => ktr_room); (case ku => ktr_units); (case ks => intro p hp; k_mem))
    rintro r2 N2 h2 tk2 F2 Nx2 ⟨tl2, hT2, rfl, hA2⟩
    obtain ⟨b2, rfl⟩ := dat_ref hT2
    (try dsimp only)
    (try k_fold)
    walk
    refine ne_same (d := tOf (.arr (elderO way))) Nx2 (DatIn.mono (fun p hp => inR (inL hp)) hT1) (DatIn.mono (fun p hp => inL hp) hT2) (kqd_elder hw0 hw5) (by ktr_units) ?_
    replace Nx2 := newsSub (N' := (tb, ot') :: M1) Nx2 (by intro p hp; k_mem)
    clear hA1 hA2 hT1 hT2 Nx1
    walk
    obtain ⟨te, tec, teg, ete, hte⟩ := id hP.ent
    k_dflt (refine iget_mem (by k_asm) (.head _) hP.dict hP.key ?_)
    rw [ete]
    walk
    obtain ⟨tr9, hrot⟩ := hP.rot
    k_dflt (refine dget_mem (by k_asm) (.tail _ hfdm) hP.fdd hrot ?_)
    walk
    k_dflt (refine' Tell.use (told_tell _ (OvAt.mono ?ks (.arr hP.lst1 hels)) (fine_elder hw0 hw5)) ?k1 ?k2 ?k3 ?k4 ?k5 ?kK ?kd ?ku ?_; (case k1 => k_asm); (case k2 => k_asm); (case k3 => k_asm); (case k4 => k_asm); (case k5 => k_asm); (case kK => first | exact rfl | assumption); (case kd => ktr_room); (case ku => ktr_units); (case ks => intro p hp; k_mem))
    rintro r1 N1 h1 tk1 F1 Nx1 ⟨tl1, hT1, rfl, hA1⟩
    obtain ⟨b1, rfl⟩ := dat_ref hT1
    (try dsimp only)
    (try k_fold)
    walk
    k_dflt (refine' Tell.use (told_tell _ (OvAt.mono ?ks (.arr hEL hels)) (fine_elder hw0 hw5)) ?k1 ?k2 ?k3 ?k4 ?k5 ?kK ?kd ?ku ?_; (case k1 => k_asm); (case k2 => k_asm); (case k3 => k_asm); (case k4 => k_asm); (case k5 => k_asm); (case kK => first | exact rfl | assumption); (case kd => ktr_room); (case ku => ktr_units); (case ks => intro p hp; k_mem))
    rintro r2 N2 h2 tk2 F2 Nx2 ⟨tl2, hT2, rfl, hA2⟩
    obtain ⟨b2, rfl⟩ := dat_ref hT2
    (try dsimp only)
    (try k_fold)
    walk
    refine ne_same (d := tOf (.arr (elderO way))) Nx2 (DatIn.mono (fun p hp => inR (inL hp)) hT1) (DatIn.mono (fun p hp => inL hp) hT2) (kqd_elder hw0 hw5) (by ktr_units) ?_
    replace Nx2 := newsSub (N' := (tb, ot') :: M1) Nx2 (by intro p hp; k_mem)
    clear hA1 hA2 hT1 hT2 Nx1
    walk
    k_dflt (refine LCg.ListComp_U (F₀ := by k_asm) (by rfl) (by decide) (by rfl) (by decide) (by rfl) ?_)
    walk
    rename Fr _ _ _ _ => F3
    rename News _ _ _ _ => N3
    replace N3 := news_skip N3
    refine comp_mapF DatIn (fun _ _ _ _ s h => DatIn.mono s h) (fss.map fun q => tOf (hiO q.1 q.2 number 2)) rfl F3 N3 (.head _) (by omega) (by rw [List.length_map]; exact hfrl) ?_ ?_
    · intro g j v d tl8 ys8 I oI C oC D m₂ h tk E' hv hd hC hx F4 N4 ne
      rw [List.getElem?_map] at hd
      obtain ⟨q, hq, rfl⟩ := Option.map_eq_some_iff.mp hd
      obtain ⟨yr, ui, rfl, hFe, hOu⟩ := put_fetchF hP lo (N := (tb, ot') :: M1) (fun _ h => h) (hP.fresh.get hv hq)
      obtain ⟨_, _, _, _, _, _, hql⟩ := hfr.all q (List.mem_of_getElem? hq)
      walk
      k_dflt (refine' Tell.use (told_tell _ (OvAt.mono ?ks hOu) (fine_hiO (by omega))) ?k1 ?k2 ?k3 ?k4 ?k5 ?kK ?kd ?ku ?_; (case k1 => k_asm); (case k2 => k_asm); (case k3 => k_asm); (case k4 => k_asm); (case k5 => k_asm); (case kK => first | exact rfl | assumption); (case kd => ktr_room); (case ku => ktr_units); (case ks => intro p hp; k_mem))
      rintro r1 N1 h1 tk1 F1 Nx1 ⟨tl1, hT1, rfl, hA1⟩
      rename Above _ (Three _ _ _ _ _ _ _) => a9
      (try dsimp only)
      (try k_fold)
      walk
      (try k_unfold)
      rw [← List.append_assoc] at Nx1
      exact EltEnd.ofF F1 Nx1 (above_trans a9 hA1) (fun p hp => three_in p (inR hp)) (DatIn.mono (fun p hp => inL hp) hT1)
    intro g D5 h5 tk5 tl5 ys5 F5 N5 hA5 hD5 hR5
    walk
    k_dflt (refine LCg.ListComp_U (F₀ := by k_asm) (by rfl) (by decide) (by rfl) (by decide) (by rfl) ?_)
    walk
    rename Fr _ _ _ _ => F6
    rename News _ _ _ _ => N6
    refine comp_mapF DatIn (fun _ _ _ _ s h => DatIn.mono s h) (fss.map fun q => tOf (hiO q.1 q.2 number 2)) rfl F6 N6 (.tail _ (inR (.tail _ (.tail _ hFL)))) (by omega) (by rw [List.length_map]; exact hfvl) ?_ ?_
    · intro g j v d tl8 ys8 I oI C oC D m₂ h tk E' hv hd hC hx F4 N4 ne
      rw [List.getElem?_map] at hd
      obtain ⟨q, hq, rfl⟩ := Option.map_eq_some_iff.mp hd
      obtain ⟨ra, rvs, rfl, hra, hrr, hrl⟩ := hfr.get hv hq
      walk
      rename DatIn _ _ (tOf _) => hT1
      rename Above _ (Three _ _ _ _ _ _ _) => a9
      (try k_unfold)
      exact EltEnd.ofF (by k_asm) (by k_asm) a9 (fun p hp => three_in p (inR hp)) hT1
    intro g D7 h7 tk7 tl7 ys7 F7 N7 hA7 hD7 hR7
    walk
    refine ne_same (d := .list (fss.map fun q => tOf (hiO q.1 q.2 number 2))) N7 (DatIn.list (by k_mem) (DatAll.mono (fun p hp => by k_mem) (datAll_of hR5))) (DatIn.list (.head _) (DatAll.mono (fun p hp => .tail _ (inL hp)) (datAll_of hR7))) (kqd_his _ _ _) (by ktr_units) ?_
    walk
    exact hQ _ _ _ _ (by k_asm) (by k_asm)
end
section
set_option maxHeartbeats 8000000 in
theorem law_rest (w : World) {h₀ : Heap} {L fa : Addr} {cd : Value} {loose : List Str} {mean : ExcName → Option Value} {mg mb : Str → Option Value} {m : Str → Option Value} {s0 s1 : Shared} {E : Value → Shared → Prop} {Q : Flow → Shared → Prop}  (K1 : Below callerA h₀ [] h₀) (X0 : (Mine.hd.heap_39 w.params).In h₀) (T0 : Top Mine.hd.view_39 loose mean mg mb h₀) (hst : St1 h₀ L m s0 s1) (hQ : ∀ h' tk' m' N', Fr h₀ L h' m' → News h₀ L h' N' → Q (.ret (.bool true)) (⟨h', s0.gens, s0.drawn, tk', s0.os⟩ : Shared)) :
    WpL (model PySem.Challenge.rw_pb0480_01.row.prog w) (callerA.deeper (envOfC (Str.ofString "law") lawScope L fa cd)) (execs lb1 (envOfC (Str.ofString "law") lawScope L fa cd)) Q E s1 := by
  refine cutL (St2 h₀ L m s0) 3 lb_2 _ (stage2 w K1 X0 T0 hst) fun s2 h2 => ?_
  refine cutL (St3 w h₀ L m s0) 1 lb_3 _ (stage3 w K1 X0 T0 h2) fun s3 h3 => ?_
  refine cutL (St4 w h₀ L m s0) 2 lb_4 _ (stage4 w K1 X0 T0 h3) fun s4 h4 => ?_
  refine cutL (St5 w h₀ L m s0) 1 lb_5 _ (stage5 w K1 X0 T0 h4) fun s5 h5 => ?_
  refine cutL (St6 w h₀ L m s0) 1 lb_6 _ (stage6 w K1 X0 T0 h5) fun s6 h6 => ?_
  refine cutL (St8 w h₀ L m s0) 2 lb_7 _ (stage7 w K1 X0 T0 h6) fun s8 h8 => ?_
  obtain ⟨h8, tk8, t, c, vs, ns, nt, nc, k, tkk, M, way, tw, number, tn, FL, fvs, fss, EL, els, cE, hd, oh, hkvs, sh, tb, ot, kvs, ba, FD, fds, rx, rfl, F8, N8, hM⟩ := h8
  by_cases hway : way = 4
  · exact stage8 (s0 := s0) w K1 X0 T0 F8 N8 hM hway hQ
  · refine cutL _ 2 lb_9 _ (stage9 (s0 := s0) w K1 X0 T0 F8 N8 hM hway) fun s9 h9 => ?_
    obtain ⟨h9, tk9, N9, rfl, F9, Nw9, hO9⟩ := h9
    by_cases hne : fss = []
    · exact stage10 (s0 := s0) w K1 X0 T0 hM F9 Nw9 hO9 hne hQ
    · exact stage11 (s0 := s0) w K1 X0 T0 hM F9 Nw9 hO9 hne hQ
theorem law_rest' {body : List Stmt} {sc : Scope} (hb : lawBody = body) (hs : lawScope = sc) (w : World) {h₀ : Heap} {L fa : Addr} {cd : Value} {loose : List Str} {mean : ExcName → Option Value} {mg mb : Str → Option Value} {m : Str → Option Value} {s0 s1 : Shared} {E : Value → Shared → Prop} {Q : Flow → Shared → Prop} (K1 : Below callerA h₀ [] h₀) (X0 : (Mine.hd.heap_39 w.params).In h₀) (T0 : Top Mine.hd.view_39 loose mean mg mb h₀) (hst : St1 h₀ L m s0 s1) (hQ : ∀ h' tk' m' N', Fr h₀ L h' m' → News h₀ L h' N' → Q (.ret (.bool true)) (⟨h', s0.gens, s0.drawn, tk', s0.os⟩ : Shared)) :
    WpL (model PySem.Challenge.rw_pb0480_01.row.prog w) (callerA.deeper (envOfC (Str.ofString "law") sc L fa cd)) (execs (body.drop 1) (envOfC (Str.ofString "law") sc L fa cd)) Q E s1 := by
  subst hb hs
  rw [lb_1]
  exact law_rest w K1 X0 T0 hst hQ
set_option maxHeartbeats 8000000 in
theorem lawT : PySem.Challenge.rw_pb0480_01.Holds := hd (by
  k_go0
  all_goals try k_fold
  rename Fr _ _ _ _ => F0
  rename News _ _ _ _ => N0
  refine cut1 F0 N0 ?_ ?_
  · dsimp only [List.take]
    walk
    · rename Fr _ _ _ _ => F9
      rename News _ _ _ _ => N9
      rename (_ = Data.cell (some (Value.ref _))) => d9
      refine ⟨rfl, _, _, _, _, _, _, _, _, _, _, _, _, rfl, F9, news_drop3 N9, d9, ⟨_, by assumption⟩, ⟨_, by assumption⟩, ?_, ?_, ?_, by assumption, by assumption, by omega⟩
      · intro p hp
        simp only [List.mem_cons, List.not_mem_nil, or_false] at hp
        rcases hp with rfl | rfl | rfl | rfl <;> k_ne
      · omega
      · omega
    · rename Fr _ _ _ _ => F9
      rename News _ _ _ _ => N9
      rename (_ = Data.cell (some (Value.ref _))) => d9
      refine ⟨rfl, _, _, _, _, _, _, _, _, _, _, _, _, rfl, F9, news_drop4 N9, d9, ⟨_, by assumption⟩, ⟨_, by assumption⟩, ?_, ?_, ?_, .cons _ _ .nil, by decide, by decide⟩
      · intro p hp
        simp only [List.mem_cons, List.not_mem_nil, or_false] at hp
        rcases hp with rfl | rfl | rfl | rfl <;> k_ne
      · omega
      · omega
  intro s' hst
  rename World => w
  rename Below _ _ _ _ => K0
  rename Top _ _ _ _ _ _ => T0
  rename (Mine.hd.heap_39 _).In _ => X0
  with_reducible refine WpL.get ?_
  refine law_rest' ?hb ?hs w K0 X0 T0 hst fun h' tk' m' N' F' N'' => ?_
  case hb => kernel_rfl
  case hs => kernel_rfl
  walk
  )
end
end Mine
set_option maxRecDepth 100000 in
set_option maxHeartbeats 8000000 in
theorem PySem.Challenge.cw_pb0480_01_holds : PySem.Challenge.rw_pb0480_01.Holds :=
  Mine.lawT
