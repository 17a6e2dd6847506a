import PyProof.Rows.All
import Wide.All
import OpenK.AllK
import Wide.FinOn
import PySem.Challenge.RW_on0156_01
open PySem PySem.W PyProof.Rows
set_option Elab.async false
set_option linter.all false
set_option maxRecDepth 100000
set_option maxHeartbeats 4000000
open_top Mine.hd for PySem.Challenge.rw_on0156_01
namespace Mine
/-- what the ledger holds off one address -/
def offL (p : Addr) (news : List (Addr × Obj)) : List (Addr × Obj) := news.filter fun q => !(q.1 == p)
theorem offL_ne (p : Addr) (news : List (Addr × Obj)) : ∀ q ∈ offL p news, q.1 ≠ p := fun q hq => by
  have := (List.mem_filter.mp hq).2
  simpa using this
theorem offL_sub {p : Addr} {news : List (Addr × Obj)} : ∀ q ∈ offL p news, q ∈ news := fun _ hq => (List.mem_filter.mp hq).1
theorem offL_mem {p a : Addr} {o : Obj} {news : List (Addr × Obj)} (h : (a, o) ∈ news) (hne : a ≠ p) : (a, o) ∈ offL p news :=
  List.mem_filter.mpr ⟨h, by simpa using hne⟩
theorem news_front {h₀ h : Heap} {L p : Addr} {o : Obj} {news : List (Addr × Obj)} (N : News h₀ L h news) (hm : (p, o) ∈ news) : News h₀ L h ((p, o) :: offL p news) := fun q hq => by
  rcases List.mem_cons.mp hq with rfl | hq
  · exact N _ hm
  · exact N _ (offL_sub q hq)
theorem news_sub {h₀ h : Heap} {L : Addr} {news news' : List (Addr × Obj)} (N : News h₀ L h news) (hs : ∀ p ∈ news', p ∈ news) : News h₀ L h news' := fun p hp => N p (hs p hp)
/-- two objects of one ledger at one address are one -/
theorem news_one {h₀ h : Heap} {L a : Addr} {o o' : Obj} {news : List (Addr × Obj)} (N : News h₀ L h news) (h1 : (a, o) ∈ news) (h2 : (a, o') ∈ news) : o = o' := by
  have e1 := (N _ h1).1
  have e2 := (N _ h2).1
  rw [e1] at e2
  exact Option.some.inj e2
theorem allLt_ne {d : Addr} {l : List (Addr × Obj)} (h : AllLt d l) : ∀ p ∈ l, p.1 ≠ d := by
  induction l with
  | nil => intro p hp; cases hp
  | cons q r ih =>
    intro p hp
    rcases List.mem_cons.mp hp with e | hp
    · rw [e]; exact Nat.ne_of_lt h.1
    · exact ih h.2 p hp
theorem ltAll_ne {d : Addr} {l : List (Addr × Obj)} (h : ∀ p ∈ l, p.1 < d) : ∀ p ∈ l, p.1 ≠ d := fun p hp => Nat.ne_of_lt (h p hp)
abbrev tupOf (its : Array Value) (n : Nat) : Obj := { cls := .type "tuple", data := .seq its n }
theorem list_ne_tup {its its' : Array Value} {n n' : Nat} : listOf its n ≠ tupOf its' n' := by
  intro h
  have h1 : Value.type "list" = Value.type "tuple" := congrArg Obj.cls h
  injection h1 with h2
  exact absurd h2 (by decide)

/-- one draw: the digit, and what is left -/
def takeD (ns : List Int) (k : Int) : Int := match ns with | [] => 0 | n :: _ => n.fmod k
def takeR (ns : List Int) (k : Int) : List Int := match ns with | [] => [] | n :: r => if n.fdiv k = 0 then r else n.fdiv k :: r
/-- a call at a written address; of two arguments, of three -/
theorem gAt (n : Addr) {P : Model} {A : Around} {a : Args} {R : Result → Shared → Prop} {s : Shared} (h : codeAny P A (.call (.ref n) a) R s) : codeAny P A (.call (.ref n) a) R s := h
theorem g2 {P : Model} {A : Around} {a b : Value} {R : Result → Shared → Prop} {s : Shared} (h : codeAny P A (.call (.ref 124) ⟨[a, b], []⟩) R s) : codeAny P A (.call (.ref 124) ⟨[a, b], []⟩) R s := h
theorem g3 {P : Model} {A : Around} {a b c : Value} {R : Result → Shared → Prop} {s : Shared} (h : codeAny P A (.call (.ref 124) ⟨[a, b, c], []⟩) R s) : codeAny P A (.call (.ref 124) ⟨[a, b, c], []⟩) R s := h

end Mine
local macro_rules | `(tactic| walk_at $s:str) => `(tactic| k_extra $s)
local macro_rules | `(tactic| k_enter) => `(tactic| first | k_extra "k_enter" | fail "k_enter: no row")
local macro_rules | `(tactic| k_mem) => `(tactic| k_extra "k_mem")
local macro_rules | `(tactic| k_all) => `(tactic| k_extra "k_all")
local macro_rules | `(tactic| k_ne) => `(tactic| k_extra "k_ne")
local macro_rules | `(tactic| k_room) => `(tactic| k_extra "k_room")
local macro_rules | `(tactic| k_units) => `(tactic| k_extra "k_units")
theorem Mine.rows_1 : True := by
  k_with_none
  (k_with "k_mem" => first | with_reducible assumption | exact List.mem_cons_self | (refine' List.mem_cons_of_mem _ ?_; k_mem))
  (k_with "k_all" => first | with_reducible assumption | exact Mine.offL_ne _ _ | exact Mine.allLt_ne (by assumption) | exact Mine.ltAll_ne (by assumption))
  (k_with "k_ne" => (refine neN ?_; (try dsimp only); first | assumption | exact Ne.symm (by assumption) | exact Nat.ne_of_lt (by assumption) | exact Nat.ne_of_gt (by assumption)))
  (k_with "k_room" => ((try simp only [depth_under_make, depth_under_kw, depth_in1, depth_deeper, depth_caller]); (have hrl9 : recursionLimit = 1000 := by rfl); (try dsimp only); omega))
  (k_with "k_units" => ((have hcL9 := cLine_is); (try simp only [units_in1, units_deeper, Around.mark_units, units_caller]); (try dsimp only); omega))
  (k_with "mok" => (all_goals first | (fail_if_success (with_reducible show (_ : Prop))) | (with_reducible show wpAny _ _ _ _ _ _) | (fail_if_success (fail_if_success intro _))))
  (k_with "mc" => (try any_goals ((with_reducible show Fr _ _ _ _); k_asm)); (try any_goals ((with_reducible show (_ : Prop)); (fail_if_success (with_reducible show wpAny _ _ _ _ _ _)); first | k_mem | k_asm | (intro vz8 nz8; k_upd) | ((fail_if_success intro _); first | exact rfl | ((with_reducible show (_ : Nat) < _); first | k_room | k_units) | ((try rw [sizeLine_eq]); (try simp only [List.size_toArray, List.length_append, List.length_cons, List.length_nil, Array.length_toList, List.length_replicate]); omega) | exact News.isList (by k_asm) (by k_mem) | exact News.isTup (by k_asm) (by k_mem) | k_upd))); k_extra "mok")
  (k_with "me" => ((try dsimp only); (try k_sweep)))
  (k_with "ment" => (try any_goals ((with_reducible show Below _ _ _ _); k_asm)); (try any_goals ((with_reducible show Fr _ _ _ _); k_asm)); (try any_goals ((with_reducible show Frag.In _ _); k_asm)); (try any_goals ((with_reducible show News _ _ _ _); k_asm)); (try any_goals ((with_reducible show Top _ _ _ _ _ _); k_asm)); (try any_goals ((with_reducible show (_ : Option _) = _); k_is)); (try any_goals ((with_reducible show codeIn _ _ _ = _); k_is)); (try any_goals ((with_reducible show (_ : Nat) < _); k_room)); (try any_goals ((with_reducible show BindsTo _ _ _ _); first | exact BindsTo.of_eq rfl | exact binds_K (by k_in) rfl (by k_is) rfl rfl rfl | fail "k_enter: no rule for these arguments")))
  (k_with "k_enter" => (refine' code_def ?_ ?_ ?_ ?_ ?_ (by exact rfl) (by first | exact rfl | assumption) (by first | exact rfl | assumption) ?_ ?_ ?_ ?_ ?_ ?_ ?_ ?_ ?_ ?_; k_extra "ment"; (try any_goals ((with_reducible show (_ : Bool) = _); exact rfl)); (try any_goals ((with_reducible show (_ : ScopeKind) = _); exact rfl)); (any_goals exact locs rfl); (any_goals ((with_reducible show ∀ x ∈ Scope.names _, _); decide)); k_extra "mok"; k_whole; intro _ _ _ _ _ _ Bz9 _ _; (try dsimp only); (try k_lift Bz9); (try k_fold)))
  (k_with "k_enter" => (refine' code_defC ?_ ?_ ?_ ?_ ?_ (by exact rfl) (by first | exact rfl | assumption) (by first | exact rfl | assumption) ?_ ?_ ?_ ?_ ?_ ?_ ?_ ?_ ?_ ?_; k_extra "ment"; (try any_goals ((with_reducible show (_ : Bool) = _); exact rfl)); (try any_goals ((with_reducible show (_ : ScopeKind) = _); exact rfl)); (any_goals ((with_reducible show List.Nodup _); decide +kernel)); k_extra "mok"; k_whole; intro _ _ _ _ _ _ _ Nz9 Yz9 Bz9 _ _ lz9; (try k_lt lz9); k_cells Yz9; (try simp only [List.cons_append, List.nil_append] at Nz9); (try dsimp only); (try k_lift Bz9); (try k_fold)))
  (k_with "call builtin:list.pop" => (k_here; k_dflt (refine Mine.pop0 (by k_asm) (by k_asm) (by k_upd) (by (rw [sizeLine_eq]; show List.length _ + 1 ≤ _; omega)) ?_); kl_rest))
  trivial
namespace Mine
theorem pop0 {prog : Program} {w : World} {A : Around} {E : Value → Shared → Prop} {s : Shared} {h₀ : Heap} {L D : Addr} {m : Str → Option Value} {news news' : List (Addr × Obj)} {n : Nat} {u : Tok} {q : List Value} {y : Value} {Q : Value → Shared → Prop}
    (F : Fr h₀ L s.heap m) (N : News h₀ L s.heap news) (U : Upd D (listOf (y :: q).toArray n) (listOf q.toArray (n + 1)) news news')
    (hz : q.length + 1 ≤ sizeLine) (h : ∀ h', Fr h₀ L h' m → News h₀ L h' news' → Q y { s with heap := h' }) : wpAny (model prog w) A (call (.builtin "list.pop") [.ref D, .int 0 u]) Q E s :=
  kl_popAt (k := 0) (p := []) (q := q) (y := y) F N rfl (by simp [seqIndex?]) rfl U hz h

theorem takeR_zero {vs : List Value} {x k : Int} {r : List Int} (hi : IntsAre vs r) (h0 : (((x :: r).getD (Int.toNat 0) 0).fdiv k :: r).getD (Int.toNat 0) 0 = 0) : IntsAre vs (takeR (x :: r) k) := by
  have h1 : x.fdiv k = 0 := h0
  show IntsAre vs (if x.fdiv k = 0 then r else x.fdiv k :: r)
  rw [if_pos h1]; exact hi
theorem takeR_more {vs : List Value} {x k : Int} {r : List Int} {t : Tok} (hi : IntsAre vs r) (h0 : (((x :: r).getD (Int.toNat 0) 0).fdiv k :: r).getD (Int.toNat 0) 0 ≠ 0) : IntsAre (.int (x.fdiv k) t :: vs) (takeR (x :: r) k) := by
  have h1 : ¬ x.fdiv k = 0 := h0
  show IntsAre _ (if x.fdiv k = 0 then r else x.fdiv k :: r)
  rw [if_neg h1]; exact .cons _ _ hi

theorem take_spec {w : World} {d u : Nat} {outer : List Env} {gs : Option (List Code)} {env : Env} {h₀ base : Heap} {L : Addr} {m : Str → Option Value}
    {mg mb : Str → Option Value} {mean : ExcName → Option Value} {A₀ : Around} {s : Shared} {R : Result → Shared → Prop}
    {p : Addr} {vs : List Value} {ns : List Int} {n : Nat} {news : List (Addr × Obj)} {k : Int} {tk : Tok}
    (B : Below A₀ base outer h₀) (F : Fr h₀ L s.heap m) (X₀ : (Mine.hd.heap_39 w.params).In h₀)
    (N : News h₀ L s.heap news) (hm : (p, listOf vs.toArray n) ∈ news)
    (T : Top Mine.hd.view_39 (looseW Mine.hd.view_39 [Str.ofString "show_rule"]) mean mg mb h₀)
    (hf : env.frame = some L) (hke : env.scope.kind = .function) (hd : d < 600) (hu : u < 5000)
    (hi : IntsAre vs ns) (hk : 0 < k ∧ k < 100) (hns : ∀ x ∈ ns, 0 ≤ x ∧ x < 10 ^ 80) (hlen : ns.length ≤ 24)
    (hR : ∀ h' tk' vs' n' t, Fr h₀ L h' m → News h₀ L h' ((p, listOf vs'.toArray n') :: offL p news) → IntsAre vs' (takeR ns k) → R (.ok (.ret (.int (takeD ns k) t))) { s with heap := h', toks := tk' }) :
    codeAny (model PySem.Challenge.rw_on0156_01.row.prog w) ⟨none, d, some (env :: outer), gs, u⟩ (.call (.ref 138) ⟨[.ref p, .int k tk], []⟩) R s := by
  revert B F X₀ T
  w_top off
  k_fill
  intro B F X₀ T
  replace N := news_front N hm
  have hls := hi.length
  cases hi
  all_goals try simp only [List.length_cons, List.length_nil] at hlen hls
  all_goals (refine' code_def (L := L) ?k1 ?k2 ?k3 ?k4 ?k5 ?kA ?kF ?kK ?k6 ?k7 ?k8 ?k9 ?kB ?_ ?c2 ?c3 ?c4 ?c5; (case kA => exact rfl); (case kF => exact hf); (case kK => exact hke); (case k1 => k_asm); (case k2 => k_asm); (case k3 => k_asm); (case k4 => k_asm); (case k5 => k_asm); (case k6 => k_is); (case k7 => k_is); (case k8 => k_room); (case k9 => first | exact BindsTo.of_eq rfl | exact binds_K (by k_in) rfl (by k_is) rfl rfl rfl | fail "k_enter: no rule for these arguments"); (case c5 => decide); (case kB => exact locs rfl); (case c2 => exact rfl); (case c3 => exact rfl); (case c4 => exact rfl); k_whole; intro g' L' h' FG' F' N' B' X' T'; (try dsimp only); (try k_lift B'); (try k_fold))
  all_goals k_steps
  · exact hR _ _ [] n _ (by assumption) (by assumption) .nil
  · exfalso; omega
  · exact hR _ _ _ (n + 1) _ (by assumption) (by assumption) (takeR_zero (by assumption) (by assumption))
  · exact hR _ _ (_ :: _) n _ (by assumption) (by assumption) (takeR_more (by assumption) (by assumption))
/-- pool: what the draws keep -/
def PoolOk (ns : List Int) : Prop := (∀ x ∈ ns, 0 ≤ x ∧ x < 10 ^ 80) ∧ ns.length ≤ 24
theorem fdiv_ok {n k : Int} (hk : 0 < k) (h : 0 ≤ n ∧ n < 10 ^ 80) : 0 ≤ n.fdiv k ∧ n.fdiv k < 10 ^ 80 := by
  rw [Int.fdiv_eq_ediv_of_nonneg n (Int.le_of_lt hk)]
  refine ⟨Int.ediv_nonneg h.1 (Int.le_of_lt hk), Int.lt_of_le_of_lt ?_ h.2⟩
  exact Int.ediv_le_self k h.1
theorem PoolOk.take {ns : List Int} (h : PoolOk ns) {k : Int} (hk : 0 < k) : PoolOk (takeR ns k) := by
  obtain ⟨h1, h2⟩ := h
  cases ns with
  | nil => exact ⟨h1, h2⟩
  | cons n r =>
    show PoolOk (if n.fdiv k = 0 then r else n.fdiv k :: r)
    rw [List.length_cons] at h2
    split
    · exact ⟨fun x hx => h1 x (.tail _ hx), by omega⟩
    · refine ⟨fun x hx => ?_, by rw [List.length_cons]; omega⟩
      rcases List.mem_cons.mp hx with rfl | hx
      · exact fdiv_ok hk (h1 n (.head _))
      · exact h1 x (.tail _ hx)
theorem takeD_ok (ns : List Int) {k : Int} (hk : 0 < k) : 0 ≤ takeD ns k ∧ takeD ns k < k := by
  cases ns with
  | nil => exact ⟨Int.le_refl _, hk⟩
  | cons n r =>
    show 0 ≤ n.fmod k ∧ n.fmod k < k
    rw [Int.fmod_eq_emod_of_nonneg n (Int.le_of_lt hk)]
    exact ⟨Int.emod_nonneg _ (by omega), Int.emod_lt_of_pos _ hk⟩

theorem take_specU {w : World} {d u : Nat} {outer : List Env} {gs : Option (List Code)} {env : Env} {h₀ base : Heap} {L : Addr} {m : Str → Option Value}
    {mg mb : Str → Option Value} {mean : ExcName → Option Value} {A₀ : Around} {s : Shared} {R : Result → Shared → Prop}
    {p : Addr} {vs : List Value} {ns : List Int} {n : Nat} {news : List (Addr × Obj)} {nf : List Value → Nat → List (Addr × Obj)} {k : Int} {tk : Tok}
    (B : Below A₀ base outer h₀) (F : Fr h₀ L s.heap m) (X₀ : (Mine.hd.heap_39 w.params).In h₀)
    (N : News h₀ L s.heap news) (hm : ∀ vs' n', Upd p (listOf vs.toArray n) (listOf (List.toArray vs') n') news (nf vs' n'))
    (T : Top Mine.hd.view_39 (looseW Mine.hd.view_39 [Str.ofString "show_rule"]) mean mg mb h₀)
    (hf : env.frame = some L) (hke : env.scope.kind = .function) (hd : d < 600) (hu : u < 5000)
    (hi : IntsAre vs ns) (hok : PoolOk ns) (hk : 0 < k ∧ k < 100)
    (hR : ∀ h' tk' vs' n' t ns' dg, Fr h₀ L h' m → News h₀ L h' (nf vs' n') → IntsAre vs' ns' → PoolOk ns' → 0 ≤ dg → dg < k → R (.ok (.ret (.int dg t))) { s with heap := h', toks := tk' }) :
    codeAny (model PySem.Challenge.rw_on0156_01.row.prog w) ⟨none, d, some (env :: outer), gs, u⟩ (.call (.ref 138) ⟨[.ref p, .int k tk], []⟩) R s := by
  have hm0 : (p, listOf vs.toArray n) ∈ news := by
    obtain ⟨pre, post, e, _⟩ := (hm [] 0).split
    rw [e]; simp
  refine take_spec B F X₀ N hm0 T hf hke hd hu hi hk hok.1 hok.2 fun h' tk' vs' n' t F' N' hi' => hR h' tk' vs' n' t _ _ F' ?_ hi' (hok.take hk.1) (takeD_ok ns hk.1).1 (takeD_ok ns hk.1).2
  obtain ⟨pre, post, e, e', a, b⟩ := (hm vs' n').split
  rw [e']
  intro q hq
  rcases List.mem_append.mp hq with hq | hq
  · exact N' _ (List.mem_cons_of_mem _ (offL_mem (o := q.2) (by rw [e]; exact List.mem_append_left _ hq) (a q hq)))
  · rcases List.mem_cons.mp hq with rfl | hq
    · exact N' _ List.mem_cons_self
    · exact N' _ (List.mem_cons_of_mem _ (offL_mem (o := q.2) (by rw [e]; exact List.mem_append_right _ (List.mem_cons_of_mem _ hq)) (b q hq)))

end Mine
namespace Mine
section
variable {prog : Program} {w : World} {A : Around} {E : Value → Shared → Prop} {s : Shared} {h₀ : Heap} {L : Addr} {m : Str → Option Value} {news : List (Addr × Obj)}

theorem len_led {l : Addr} {items : Array Value} {n : Nat} {Q : Value → Shared → Prop} (N : News h₀ L s.heap news) (hm : (l, listOf items n) ∈ news) (hz : items.size ≤ 1000)
    (h : Q (.int (items.size : Int) (s.toks + 1)) { s with toks := s.toks + 1 + 1 }) : wpAny (model prog w) A (call (.builtin "len") [.ref l]) Q E s :=
  len_list (News.isList N hm) (by omega) h
theorem lent_led {l : Addr} {items : Array Value} {n : Nat} {Q : Value → Shared → Prop} (N : News h₀ L s.heap news) (hm : (l, tupOf items n) ∈ news) (hz : items.size ≤ 1000)
    (h : Q (.int (items.size : Int) (s.toks + 1)) { s with toks := s.toks + 1 + 1 }) : wpAny (model prog w) A (call (.builtin "len") [.ref l]) Q E s :=
  len_tuple (News.isTup N hm) (by omega) h

theorem item_led {value slice : Expr} {l : Addr} {vs : List Value} {n : Nat} {k : Int} {u : Tok} {v : Value} {Q : Value → Shared → Prop}
    (N : News h₀ L s.heap news) (hm : (l, listOf vs.toArray n) ∈ news) (h0 : 0 ≤ k) (hx : vs[k.toNat]? = some v) (hz : vs.length ≤ 1000) (h : Q v s)
    (hs : subscripted slice false (.ref l) (.int k u) = operate [.ref l, .int k u] (getItem (.ref l) (.int k u)) := by with_unfolding_all rfl) :
    wpAny (model prog w) A (subscriptTail value slice (.ref l) (.int k u)) Q E s := by
  have hl : s.heap.IsList l vs.toArray := News.isList N hm
  have hlt : k.toNat < vs.length := by
    rcases Nat.lt_or_ge k.toNat vs.length with h1 | h1
    · exact h1
    · rw [List.getElem?_eq_none h1] at hx; cases hx
  exact tail_any hl.typeIs slot_list_getitem.lookup (wpAny_getItem_list hl h0 (by omega) (by simpa using hx) h) hs
theorem itemt_led {value slice : Expr} {l : Addr} {vs : List Value} {n : Nat} {k : Int} {u : Tok} {v : Value} {Q : Value → Shared → Prop}
    (N : News h₀ L s.heap news) (hm : (l, tupOf vs.toArray n) ∈ news) (h0 : 0 ≤ k) (hx : vs[k.toNat]? = some v) (hz : vs.length ≤ 1000) (h : Q v s)
    (hs : subscripted slice false (.ref l) (.int k u) = operate [.ref l, .int k u] (getItem (.ref l) (.int k u)) := by with_unfolding_all rfl) :
    wpAny (model prog w) A (subscriptTail value slice (.ref l) (.int k u)) Q E s := by
  have hlt : k.toNat < vs.length := by
    rcases Nat.lt_or_ge k.toNat vs.length with h1 | h1
    · exact h1
    · rw [List.getElem?_eq_none h1] at hx; cases hx
  refine item_tupleT (News.isTup N hm) (by omega) (by omega) (j := k.toNat) ?_ hx h hs
  unfold seqIndex?
  have h1 : ¬ k < 0 := by omega
  simp [h1]
  omega

theorem isStr_at (k : Str) : ∀ {vs : List Value} {ns : List Str}, StrsAre vs ns → ∀ (j : Nat) (h1 : j < vs.length) (h2 : j < ns.length), isStrOf k vs[j] = (ns[j] == k)
  | _, _, .cons n t _, 0, _, _ => rfl
  | _, _, .cons n t r, j + 1, h1, h2 => isStr_at k r j (Nat.lt_of_succ_lt_succ h1) (Nat.lt_of_succ_lt_succ h2)
theorem strs_len : ∀ {vs : List Value} {ns : List Str}, StrsAre vs ns → vs.length = ns.length
  | _, _, .nil => rfl
  | _, _, .cons _ _ r => by rw [List.length_cons, List.length_cons, strs_len r]
theorem strs_get : ∀ {vs : List Value} {ns : List Str}, StrsAre vs ns → ∀ {j : Nat} {x : Str}, ns[j]? = some x → ∃ t, vs[j]? = some (.str x t)
  | _, _, .cons n t _, 0, x, h => ⟨t, by simp at h; simp [h]⟩
  | _, _, .cons n t r, j + 1, x, h => by
    obtain ⟨t', e⟩ := strs_get r (j := j) (x := x) (by simpa using h)
    exact ⟨t', by simpa using e⟩
theorem before_idx {k : Str} {ns : List Str} {j : Nat} (h : j < ns.idxOf k) (h2 : j < ns.length) : (ns[j] == k) = false := by
  have := List.not_of_lt_findIdx (p := (· == k)) h
  simpa using this

theorem index_strs {l : Addr} {vs : List Value} {ns : List Str} {n : Nat} {k : Str} {t : Tok} {Q : Value → Shared → Prop} (N : News h₀ L s.heap news) (hm : (l, listOf vs.toArray n) ∈ news) (hi : StrsAre vs ns)
    (hz : vs.length ≤ 1000) (hk : k ∈ ns) (h : Q (.int (ns.idxOf k : Nat) s.toks) { s with toks := s.toks + 1 }) :
    wpAny (model prog w) A (call (.builtin "list.index") [.ref l, .str k t]) Q E s := by
  have hlen := strs_len hi
  have hj : ns.idxOf k < ns.length := List.idxOf_lt_length_iff.mpr hk
  refine call_meets PySem.F.slot_list_index ⟨_, (N _ hm).1, rfl⟩ PySem.F.entry_list_index (PySem.F.args_list_index_2 _ _)
    (PySem.MeetsSeq.list_index l vs.toArray n (.str k t) (isStrOf k) (fun y hy => eq_isStrOf k t hi y (by simpa using hy)) (ns.idxOf k) (by simpa [hlen] using hj) (by omega) ?_ ?_) ⟨(N _ hm).1, h⟩
  · show isStrOf k vs[ns.idxOf k] = true
    rw [isStr_at k hi _ (by omega) hj]
    simpa using List.getElem_idxOf hj
  · intro j hjs hlt
    show isStrOf k vs[j] = false
    rw [isStr_at k hi j (by simpa using hjs) (by omega)]
    exact before_idx hlt (by omega)
theorem in_strs {l : Addr} {vs : List Value} {ns : List Str} {n : Nat} {k : Str} {t : Tok} {Q : Value → Shared → Prop} (N : News h₀ L s.heap news) (hm : (l, listOf vs.toArray n) ∈ news) (hi : StrsAre vs ns)
    (h : Q (.bool (ns.any (· == k))) s) : wpAny (model prog w) A (compareOp .In (.str k t) (.ref l)) Q E s := in_list_strs (News.isList N hm) hi h

theorem add_led {a b : Addr} {its its2 : Array Value} {n n2 : Nat} {Q : Value → Shared → Prop} (F : Fr h₀ L s.heap m) (N : News h₀ L s.heap news) (ha : (a, listOf its n) ∈ news) (hb : (b, listOf its2 n2) ∈ news)
    (hz : its.size + its2.size ≤ 5000)
    (h : ∀ D h', Fr h₀ L h' m → News h₀ L h' ((D, listOf (its.toList ++ its2.toList).toArray 0) :: news) → (∀ p ∈ news, p.1 < D) → Q (.ref D) { s with heap := h' }) :
    wpAny (model prog w) A (binaryOp .Add (.ref a) (.ref b)) Q E s :=
  kmk_add_lit F N (News.isList N ha) (News.isList N hb) rfl h (by rw [sizeLine_eq]; simp only [Array.length_toList]; omega)
theorem join_led {D : Addr} {items : Array Value} {n : Nat} {ys : List Str} {x : Str} {t : Tok} {Q : Value → Shared → Prop} (N : News h₀ L s.heap news) (hm : (D, listOf items n) ∈ news) (hi : StrsAre items.toList ys)
    (hok : (ys.map (·.length)).sum + ys.length * x.length ≤ 16777216) (h : ∀ t' k, Q (.str (Txt.join x ys) t') { s with toks := k }) :
    wpAny (model prog w) A (call (.builtin "str.join") [.str x t, .ref D]) Q E s := join_list (News.isList N hm) hi hok h
theorem strs_append : ∀ {vs ws : List Value} {xs ys : List Str}, StrsAre vs xs → StrsAre ws ys → StrsAre (vs ++ ws) (xs ++ ys)
  | _, _, _, _, .nil, h => h
  | _, _, _, _, .cons y t r, h => .cons y t (strs_append r h)
theorem strs_take : ∀ {vs : List Value} {xs : List Str}, StrsAre vs xs → ∀ n, StrsAre (vs.take n) (xs.take n)
  | _, _, .nil, n => by simp; exact .nil
  | _, _, .cons y t r, 0 => .nil
  | _, _, .cons y t r, n + 1 => .cons y t (strs_take r n)
theorem strs_drop : ∀ {vs : List Value} {xs : List Str}, StrsAre vs xs → ∀ n, StrsAre (vs.drop n) (xs.drop n)
  | _, _, .nil, n => by simp; exact .nil
  | _, _, .cons y t r, 0 => .cons y t r
  | _, _, .cons y t r, n + 1 => strs_drop r n
theorem strs_upto {vs : List Value} {xs : List Str} (hi : StrsAre vs xs) {y : Int} (h0 : 0 ≤ y) : StrsAre (slicePick vs.toArray none (some y) none).toList (xs.take y.toNat) := by
  obtain ⟨k, rfl⟩ := Int.eq_ofNat_of_zero_le h0
  rw [slicePick_upto']
  exact strs_take hi k
theorem strs_from {vs : List Value} {xs : List Str} (hi : StrsAre vs xs) {y : Int} (h0 : 0 ≤ y) : StrsAre (slicePick vs.toArray (some y) none none).toList (xs.drop y.toNat) := by
  obtain ⟨k, rfl⟩ := Int.eq_ofNat_of_zero_le h0
  rw [slicePick_from']
  exact strs_drop hi k
theorem sum_len_le {B : Nat} : ∀ {ys : List Str}, (∀ y ∈ ys, y.length ≤ B) → (ys.map (·.length)).sum ≤ B * ys.length
  | [], _ => by simp
  | y :: r, h => by
    have h1 := h y (.head _)
    have h2 := sum_len_le (ys := r) fun z hz => h z (.tail _ hz)
    rw [List.map_cons, List.sum_cons, List.length_cons, Nat.mul_add]
    omega
theorem join_len_le {ys : List Str} (h : ∀ y ∈ ys, y.length ≤ 20) : (Txt.join (Str.ofString " ") ys).length ≤ 100 * (ys.length + 1) := by
  have h1 := sum_len_le h
  have h2 : (Txt.join (Str.ofString " ") ys).length ≤ 4 * (21 * ys.length + 1) := len_join_le (n := 21 * ys.length) (by show (ys.map (·.length)).sum + ys.length ≤ 21 * ys.length + 1; omega) (by decide)
  omega
end

end Mine
theorem Mine.rows_2 : True := by
  k_with_none
  (k_with "k_mem" => first | with_reducible assumption | exact List.mem_cons_self | (refine' List.mem_cons_of_mem _ ?_; k_mem))
  (k_with "k_all" => first | with_reducible assumption | exact Mine.offL_ne _ _ | exact Mine.allLt_ne (by assumption) | exact Mine.ltAll_ne (by assumption))
  (k_with "k_ne" => (refine neN ?_; (try dsimp only); first | assumption | exact Ne.symm (by assumption) | exact Nat.ne_of_lt (by assumption) | exact Nat.ne_of_gt (by assumption)))
  (k_with "k_room" => ((try simp only [depth_under_make, depth_under_kw, depth_in1, depth_deeper, depth_caller]); (have hrl9 : recursionLimit = 1000 := by rfl); (try dsimp only); omega))
  (k_with "k_units" => ((have hcL9 := cLine_is); (try simp only [units_in1, units_deeper, Around.mark_units, units_caller]); (try dsimp only); omega))
  (k_with "mok" => (all_goals first | (fail_if_success (with_reducible show (_ : Prop))) | (with_reducible show wpAny _ _ _ _ _ _) | (fail_if_success (fail_if_success intro _))))
  (k_with "mc" => (try any_goals ((with_reducible show Fr _ _ _ _); k_asm)); (try any_goals ((with_reducible show (_ : Prop)); (fail_if_success (with_reducible show wpAny _ _ _ _ _ _)); first | k_mem | k_asm | (intro vz8 nz8; k_upd) | ((fail_if_success intro _); first | exact rfl | ((with_reducible show (_ : Nat) < _); first | k_room | k_units) | ((try rw [sizeLine_eq]); (try simp only [List.size_toArray, List.length_append, List.length_cons, List.length_nil, Array.length_toList, List.length_replicate]); omega) | exact News.isList (by k_asm) (by k_mem) | exact News.isTup (by k_asm) (by k_mem) | k_upd))); k_extra "mok")
  (k_with "me" => ((try dsimp only); (try k_sweep)))
  (k_with "ment" => (try any_goals ((with_reducible show Below _ _ _ _); k_asm)); (try any_goals ((with_reducible show Fr _ _ _ _); k_asm)); (try any_goals ((with_reducible show Frag.In _ _); k_asm)); (try any_goals ((with_reducible show News _ _ _ _); k_asm)); (try any_goals ((with_reducible show Top _ _ _ _ _ _); k_asm)); (try any_goals ((with_reducible show (_ : Option _) = _); k_is)); (try any_goals ((with_reducible show codeIn _ _ _ = _); k_is)); (try any_goals ((with_reducible show (_ : Nat) < _); k_room)); (try any_goals ((with_reducible show BindsTo _ _ _ _); first | exact BindsTo.of_eq rfl | exact binds_K (by k_in) rfl (by k_is) rfl rfl rfl | fail "k_enter: no rule for these arguments")))
  (k_with "k_enter" => (refine' code_def ?_ ?_ ?_ ?_ ?_ (by exact rfl) (by first | exact rfl | assumption) (by first | exact rfl | assumption) ?_ ?_ ?_ ?_ ?_ ?_ ?_ ?_ ?_ ?_; k_extra "ment"; (try any_goals ((with_reducible show (_ : Bool) = _); exact rfl)); (try any_goals ((with_reducible show (_ : ScopeKind) = _); exact rfl)); (any_goals exact locs rfl); (any_goals ((with_reducible show ∀ x ∈ Scope.names _, _); decide)); k_extra "mok"; k_whole; intro _ _ _ _ _ _ Bz9 _ _; (try dsimp only); (try k_lift Bz9); (try k_fold)))
  (k_with "k_enter" => (refine' code_defC ?_ ?_ ?_ ?_ ?_ (by exact rfl) (by first | exact rfl | assumption) (by first | exact rfl | assumption) ?_ ?_ ?_ ?_ ?_ ?_ ?_ ?_ ?_ ?_; k_extra "ment"; (try any_goals ((with_reducible show (_ : Bool) = _); exact rfl)); (try any_goals ((with_reducible show (_ : ScopeKind) = _); exact rfl)); (any_goals ((with_reducible show List.Nodup _); decide +kernel)); k_extra "mok"; k_whole; intro _ _ _ _ _ _ _ Nz9 Yz9 Bz9 _ _ lz9; (try k_lt lz9); k_cells Yz9; (try simp only [List.cons_append, List.nil_append] at Nz9); (try dsimp only); (try k_lift Bz9); (try k_fold)))
  (k_with "k_enter" => ((with_reducible refine' Mine.gAt 138 ?_); refine' Mine.take_specU ?_ ?_ ?_ ?_ ?_ ?_ ?_ ?_ ?_ ?_ ?_ ?_ ?_ ?_; k_extra "mc"; intro _ _ _ _ _ _ _ _ _ _ _ _; k_extra "me"))
  (k_with "call builtin:len" => (k_here; (with_reducible show wpAny _ _ (call (Value.builtin "len") [Value.ref _]) _ _ _); k_dflt (first | (refine Mine.len_led (by k_asm) (by k_mem) (by (simp only [List.size_toArray]; omega)) ?_; k_whole; (try simp only [List.size_toArray])) | (refine Mine.lent_led (by k_asm) (by k_mem) (by (simp only [List.size_toArray]; omega)) ?_; k_whole; (try simp only [List.size_toArray])))))
  (k_with "subscriptTail" => (k_here; (with_reducible show wpAny _ _ (subscriptTail _ _ (Value.ref _) (Value.int _ _)) _ _ _); k_dflt (first | (refine Mine.item_led (by k_asm) (by k_mem) (by omega) (by with_reducible assumption) (by omega) ?_; k_whole) | (refine Mine.itemt_led (by k_asm) (by k_mem) (by omega) (by with_reducible assumption) (by omega) ?_; k_whole))))
  (k_with "compareOp In" => (k_here; (with_reducible show wpAny _ _ (compareOp CmpOp.In (Value.str _ _) (Value.ref _)) _ _ _); k_dflt (refine Mine.in_strs (by k_asm) (by k_mem) (by with_reducible assumption) ?_; k_whole)))
  (k_with "call builtin:list.index" => (k_here; (with_reducible show wpAny _ _ (call (Value.builtin _) [Value.ref _, Value.str _ _]) _ _ _); k_dflt (refine Mine.index_strs (by k_asm) (by k_mem) (by with_reducible assumption) (by omega) (by first | assumption | (simp_all; done)) ?_; k_whole)))
  (k_with "call type:list" => (k_here; (with_reducible show wpAny _ _ (call (Value.type _) [Value.ref _]) _ _ _); (with_unfolding_all first | (refine list_copyK (by k_asm) (by k_asm) (by exact News.isList (by k_asm) (by k_mem)) ?_ (by (rw [sizeLine_eq]; simp only [List.size_toArray]; omega)); k_whole) | (refine list_copyKT (by k_asm) (by k_asm) (by exact News.isTup (by k_asm) (by k_mem)) ?_ (by (rw [sizeLine_eq]; simp only [List.size_toArray]; omega)); k_whole)); intro _ _ _ _ _ lz9; (try k_lt lz9); (try k_sweep)))
  (k_with "binaryOp Add ref ref" => (k_here; (with_reducible show wpAny _ _ (binaryOp _ (Value.ref _) (Value.ref _)) _ _ _); k_dflt (refine' Mine.add_led ?_ ?_ ?_ ?_ ?_ ?_; k_extra "mc"); intro _ _ _ _ lz9; (try k_lt lz9); (try k_sweep)))
  (k_with "binaryOp Add str str" => (k_here; (with_reducible show wpAny _ _ (binaryOp _ (Value.str _ _) (Value.str _ _)) _ _ _); k_dflt (refine PyProof.Rows.add_str ?_ (by with_reducible assumption)); intro _ _))
  trivial
namespace Mine
/-- what a Grammar's __init__ leaves in its dict -/
abbrev gramD (P : Params) (k : Nat → Tok) (an : Addr) (cnt : Int) (rl lv : Addr) (st : Int) (bl off ow : Addr) (ic : Int) (t : Nat → Tok) : List DictEntry :=
  [⟨PyData.keyHash P "names", .str (Str.ofString "names") (k 0), .ref an⟩, ⟨PyData.keyHash P "terminal_count", .str (Str.ofString "terminal_count") (k 1), .int cnt (t 0)⟩,
   ⟨PyData.keyHash P "rules", .str (Str.ofString "rules") (k 2), .ref rl⟩, ⟨PyData.keyHash P "levels", .str (Str.ofString "levels") (k 3), .ref lv⟩,
   ⟨PyData.keyHash P "expect", .str (Str.ofString "expect") (k 4), .none⟩, ⟨PyData.keyHash P "start", .str (Str.ofString "start") (k 5), .int st (t 1)⟩,
   ⟨PyData.keyHash P "by_left", .str (Str.ofString "by_left") (k 6), .ref bl⟩, ⟨PyData.keyHash P "offsets", .str (Str.ofString "offsets") (k 7), .ref off⟩,
   ⟨PyData.keyHash P "owners", .str (Str.ofString "owners") (k 8), .ref ow⟩, ⟨PyData.keyHash P "item_count", .str (Str.ofString "item_count") (k 9), .int ic (t 2)⟩]
/-- a Rule's -/
abbrev ruleD (P : Params) (k : Nat → Tok) (i l : Int) (tp : Addr) (t : Nat → Tok) : List DictEntry :=
  [⟨PyData.keyHash P "number", .str (Str.ofString "number") (k 0), .int i (t 0)⟩, ⟨PyData.keyHash P "left", .str (Str.ofString "left") (k 1), .int l (t 1)⟩,
   ⟨PyData.keyHash P "right", .str (Str.ofString "right") (k 2), .ref tp⟩, ⟨PyData.keyHash P "level_of", .str (Str.ofString "level_of") (k 3), .int (-1) 202⟩,
   ⟨PyData.keyHash P "action", .str (Str.ofString "action") (k 4), .none⟩, ⟨PyData.keyHash P "line", .str (Str.ofString "line") (k 5), .int 0 203⟩,
   ⟨PyData.keyHash P "before", .str (Str.ofString "before") (k 6), .int 0 204⟩]

section
variable {w : World} {d u : Nat} {outer : List Env} {gs : Option (List Code)} {env : Env} {h₀ base : Heap} {L : Addr} {m : Str → Option Value}
    {mg mb : Str → Option Value} {mean : ExcName → Option Value} {A₀ : Around} {s : Shared} {R : Result → Shared → Prop} {news : List (Addr × Obj)}
    {k : Nat → Tok} {an : Addr} {cnt : Int} {rl lv : Addr} {st : Int} {bl off ow : Addr} {ic : Int} {t : Nat → Tok} {g gd : Addr}
theorem symbolCount_spec {nv : List Value} {ne : Nat} (B : Below A₀ base outer h₀) (F : Fr h₀ L s.heap m) (X₀ : (Mine.hd.heap_39 w.params).In h₀) (N : News h₀ L s.heap news)
    (T : Top Mine.hd.view_39 (looseW Mine.hd.view_39 [Str.ofString "show_rule"]) mean mg mb h₀) (hf : env.frame = some L) (hke : env.scope.kind = .function) (hd : d < 600) (hu : u < 5000)
    (hg : (g, instObj 114 gd) ∈ news) (hgd : (gd, dictOf (gramD w.params k an cnt rl lv st bl off ow ic t) 10) ∈ news) (hn : (an, listOf nv.toArray ne) ∈ news) (hz : nv.length ≤ 1000)
    (hR : ∀ h' tk' t', Fr h₀ L h' m → News h₀ L h' news → R (.ok (.ret (.int (nv.length : Int) t'))) { s with heap := h', toks := tk' }) :
    codeAny (model PySem.Challenge.rw_on0156_01.row.prog w) ⟨none, d, some (env :: outer), gs, u⟩ (.call (.ref 55) ⟨[.ref g], []⟩) R s := by
  revert B F X₀ T
  w_top off
  k_fill
  intro B F X₀ T
  k_enter
  k_steps
  exact hR _ _ _ (by assumption) (by assumption)
theorem isTerminal_spec {i : Int} {ti : Tok} (B : Below A₀ base outer h₀) (F : Fr h₀ L s.heap m) (X₀ : (Mine.hd.heap_39 w.params).In h₀) (N : News h₀ L s.heap news)
    (T : Top Mine.hd.view_39 (looseW Mine.hd.view_39 [Str.ofString "show_rule"]) mean mg mb h₀) (hf : env.frame = some L) (hke : env.scope.kind = .function) (hd : d < 600) (hu : u < 5000)
    (hg : (g, instObj 114 gd) ∈ news) (hgd : (gd, dictOf (gramD w.params k an cnt rl lv st bl off ow ic t) 10) ∈ news)
    (hR : ∀ h' tk', Fr h₀ L h' m → News h₀ L h' news → R (.ok (.ret (.bool (decide (i < cnt))))) { s with heap := h', toks := tk' }) :
    codeAny (model PySem.Challenge.rw_on0156_01.row.prog w) ⟨none, d, some (env :: outer), gs, u⟩ (.call (.ref 62) ⟨[.ref g, .int i ti], []⟩) R s := by
  revert B F X₀ T
  w_top off
  k_fill
  intro B F X₀ T
  k_enter
  k_steps
  exact hR _ _ (by assumption) (by assumption)
theorem isMiddle_spec {i : Int} {ti tx : Tok} {nv : List Value} {ne : Nat} {x : Str} (B : Below A₀ base outer h₀) (F : Fr h₀ L s.heap m) (X₀ : (Mine.hd.heap_39 w.params).In h₀) (N : News h₀ L s.heap news)
    (T : Top Mine.hd.view_39 (looseW Mine.hd.view_39 [Str.ofString "show_rule"]) mean mg mb h₀) (hf : env.frame = some L) (hke : env.scope.kind = .function) (hd : d < 600) (hu : u < 5000)
    (hg : (g, instObj 114 gd) ∈ news) (hgd : (gd, dictOf (gramD w.params k an cnt rl lv st bl off ow ic t) 10) ∈ news) (hn : (an, listOf nv.toArray ne) ∈ news) (hz : nv.length ≤ 1000) (h0 : 0 ≤ i) (hx : nv[i.toNat]? = some (.str x tx)) (hxl : x.length ≤ 1000)
    (hR : ∀ h' tk', Fr h₀ L h' m → News h₀ L h' news → R (.ok (.ret (.bool (Txt.startswith x (Str.ofString "$@"))))) { s with heap := h', toks := tk' }) :
    codeAny (model PySem.Challenge.rw_on0156_01.row.prog w) ⟨none, d, some (env :: outer), gs, u⟩ (.call (.ref 69) ⟨[.ref g, .int i ti], []⟩) R s := by
  revert B F X₀ T
  w_top off
  k_fill
  intro B F X₀ T
  k_enter
  k_steps
  exact hR _ _ (by assumption) (by assumption)
theorem number_spec {tx : Tok} {nv : List Value} {ne : Nat} {x : Str} {names : List Str} (B : Below A₀ base outer h₀) (F : Fr h₀ L s.heap m) (X₀ : (Mine.hd.heap_39 w.params).In h₀) (N : News h₀ L s.heap news)
    (T : Top Mine.hd.view_39 (looseW Mine.hd.view_39 [Str.ofString "show_rule"]) mean mg mb h₀) (hf : env.frame = some L) (hke : env.scope.kind = .function) (hd : d < 600) (hu : u < 5000)
    (hg : (g, instObj 114 gd) ∈ news) (hgd : (gd, dictOf (gramD w.params k an cnt rl lv st bl off ow ic t) 10) ∈ news) (hn : (an, listOf nv.toArray ne) ∈ news) (hns : StrsAre nv names) (hz : nv.length ≤ 1000) (hxl : x.length ≤ 1000)
    (hR : ∀ h' tk' t' v, v = (if names.any (· == x) then ((names.idxOf x : Nat) : Int) else -1 : Int) → Fr h₀ L h' m → News h₀ L h' news → R (.ok (.ret (.int v t'))) { s with heap := h', toks := tk' }) :
    codeAny (model PySem.Challenge.rw_on0156_01.row.prog w) ⟨none, d, some (env :: outer), gs, u⟩ (.call (.ref 76) ⟨[.ref g, .str x tx], []⟩) R s := by
  revert B F X₀ T
  w_top off
  k_fill
  intro B F X₀ T
  k_enter
  k_steps
  · exact hR _ _ _ _ (by first | exact (if_pos (by assumption)).symm) (by assumption) (by assumption)
  · exact hR _ _ _ _ (by first | exact (if_neg (by assumption)).symm | (rename (_ = false) => hq; exact (if_neg (by rw [hq]; exact Bool.false_ne_true)).symm)) (by assumption) (by assumption)
theorem rulesOf_spec {i : Int} {ti : Tok} {bv its : List Value} {be e : Nat} {b : Addr} {ns : List Int} (B : Below A₀ base outer h₀) (F : Fr h₀ L s.heap m) (X₀ : (Mine.hd.heap_39 w.params).In h₀) (N : News h₀ L s.heap news)
    (T : Top Mine.hd.view_39 (looseW Mine.hd.view_39 [Str.ofString "show_rule"]) mean mg mb h₀) (hf : env.frame = some L) (hke : env.scope.kind = .function) (hd : d < 600) (hu : u < 5000)
    (hg : (g, instObj 114 gd) ∈ news) (hgd : (gd, dictOf (gramD w.params k an cnt rl lv st bl off ow ic t) 10) ∈ news) (hn : (bl, listOf bv.toArray be) ∈ news) (hz : bv.length ≤ 1000) (h0 : 0 ≤ i) (hx : bv[i.toNat]? = some (.ref b)) (hb : (b, listOf its.toArray e) ∈ news) (hi : IntsAre its ns) (hl : ns.length ≤ 1000)
    (hR : ∀ h' tk' D c, Fr h₀ L h' m → News h₀ L h' ((D, listOf its.toArray c) :: news) → (∀ q ∈ news, q.1 < D) → R (.ok (.ret (.ref D))) { s with heap := h', toks := tk' }) :
    codeAny (model PySem.Challenge.rw_on0156_01.row.prog w) ⟨none, d, some (env :: outer), gs, u⟩ (.call (.ref 83) ⟨[.ref g, .int i ti], []⟩) R s := by
  revert B F X₀ T
  w_top off
  k_fill
  intro B F X₀ T
  have hil := hi.length
  k_enter
  k_steps
  exact hR _ _ _ _ (by assumption) (by assumption) (by assumption)
theorem item_spec {r dot : Int} {tr td : Tok} {ov : List Value} {oe : Nat} {os : List Int} (B : Below A₀ base outer h₀) (F : Fr h₀ L s.heap m) (X₀ : (Mine.hd.heap_39 w.params).In h₀) (N : News h₀ L s.heap news)
    (T : Top Mine.hd.view_39 (looseW Mine.hd.view_39 [Str.ofString "show_rule"]) mean mg mb h₀) (hf : env.frame = some L) (hke : env.scope.kind = .function) (hd : d < 600) (hu : u < 5000)
    (hg : (g, instObj 114 gd) ∈ news) (hgd : (gd, dictOf (gramD w.params k an cnt rl lv st bl off ow ic t) 10) ∈ news) (hn : (off, listOf ov.toArray oe) ∈ news) (hi : IntsAre ov os) (hl : os.length ≤ 1000) (h0 : 0 ≤ r ∧ r < (os.length : Int))
    (hR : ∀ h' tk' t', Fr h₀ L h' m → News h₀ L h' news → R (.ok (.ret (.int (os.getD r.toNat 0 + dot) t'))) { s with heap := h', toks := tk' }) :
    codeAny (model PySem.Challenge.rw_on0156_01.row.prog w) ⟨none, d, some (env :: outer), gs, u⟩ (.call (.ref 90) ⟨[.ref g, .int r tr, .int dot td], []⟩) R s := by
  revert B F X₀ T
  w_top off
  k_fill
  intro B F X₀ T
  k_enter
  k_steps
  exact hR _ _ _ (by assumption) (by assumption)
theorem ruleOf_spec {i : Int} {ti : Tok} {wv : List Value} {we : Nat} {ws : List Int} (B : Below A₀ base outer h₀) (F : Fr h₀ L s.heap m) (X₀ : (Mine.hd.heap_39 w.params).In h₀) (N : News h₀ L s.heap news)
    (T : Top Mine.hd.view_39 (looseW Mine.hd.view_39 [Str.ofString "show_rule"]) mean mg mb h₀) (hf : env.frame = some L) (hke : env.scope.kind = .function) (hd : d < 600) (hu : u < 5000)
    (hg : (g, instObj 114 gd) ∈ news) (hgd : (gd, dictOf (gramD w.params k an cnt rl lv st bl off ow ic t) 10) ∈ news) (hn : (ow, listOf wv.toArray we) ∈ news) (hi : IntsAre wv ws) (hl : ws.length ≤ 1000) (h0 : 0 ≤ i ∧ i < (ws.length : Int))
    (hR : ∀ h' tk' t', Fr h₀ L h' m → News h₀ L h' news → R (.ok (.ret (.int (ws.getD i.toNat 0) t'))) { s with heap := h', toks := tk' }) :
    codeAny (model PySem.Challenge.rw_on0156_01.row.prog w) ⟨none, d, some (env :: outer), gs, u⟩ (.call (.ref 97) ⟨[.ref g, .int i ti], []⟩) R s := by
  revert B F X₀ T
  w_top off
  k_fill
  intro B F X₀ T
  k_enter
  k_steps
  exact hR _ _ _ (by assumption) (by assumption)
theorem dotOf_spec {i : Int} {ti : Tok} {wv ov : List Value} {we oe : Nat} {ws os : List Int} (B : Below A₀ base outer h₀) (F : Fr h₀ L s.heap m) (X₀ : (Mine.hd.heap_39 w.params).In h₀) (N : News h₀ L s.heap news)
    (T : Top Mine.hd.view_39 (looseW Mine.hd.view_39 [Str.ofString "show_rule"]) mean mg mb h₀) (hf : env.frame = some L) (hke : env.scope.kind = .function) (hd : d < 600) (hu : u < 5000)
    (hg : (g, instObj 114 gd) ∈ news) (hgd : (gd, dictOf (gramD w.params k an cnt rl lv st bl off ow ic t) 10) ∈ news) (hn : (ow, listOf wv.toArray we) ∈ news) (hi : IntsAre wv ws) (hl : ws.length ≤ 1000) (h0 : 0 ≤ i ∧ i < (ws.length : Int)) (ho : (off, listOf ov.toArray oe) ∈ news) (hoi : IntsAre ov os) (hol : os.length ≤ 1000) (hw : 0 ≤ ws.getD i.toNat 0 ∧ ws.getD i.toNat 0 < (os.length : Int))
    (hR : ∀ h' tk' t', Fr h₀ L h' m → News h₀ L h' news → R (.ok (.ret (.int (i - os.getD (ws.getD i.toNat 0).toNat 0) t'))) { s with heap := h', toks := tk' }) :
    codeAny (model PySem.Challenge.rw_on0156_01.row.prog w) ⟨none, d, some (env :: outer), gs, u⟩ (.call (.ref 104) ⟨[.ref g, .int i ti], []⟩) R s := by
  revert B F X₀ T
  w_top off
  k_fill
  intro B F X₀ T
  k_enter
  k_steps
  exact hR _ _ _ (by assumption) (by assumption)
theorem after_spec {i : Int} {ti : Tok} {wv ov rv tv : List Value} {we oe re te : Nat} {ws os r : List Int} {x xd tp : Addr} {kr tr : Nat → Tok} {ri rl1 : Int} (B : Below A₀ base outer h₀) (F : Fr h₀ L s.heap m) (X₀ : (Mine.hd.heap_39 w.params).In h₀) (N : News h₀ L s.heap news)
    (T : Top Mine.hd.view_39 (looseW Mine.hd.view_39 [Str.ofString "show_rule"]) mean mg mb h₀) (hf : env.frame = some L) (hke : env.scope.kind = .function) (hd : d < 600) (hu : u < 5000)
    (hg : (g, instObj 114 gd) ∈ news) (hgd : (gd, dictOf (gramD w.params k an cnt rl lv st bl off ow ic t) 10) ∈ news) (hn : (ow, listOf wv.toArray we) ∈ news) (hi : IntsAre wv ws) (hl : ws.length ≤ 1000) (h0 : 0 ≤ i ∧ i < (ws.length : Int)) (ho : (off, listOf ov.toArray oe) ∈ news) (hoi : IntsAre ov os) (hol : os.length ≤ 1000) (hw : 0 ≤ ws.getD i.toNat 0 ∧ ws.getD i.toNat 0 < (os.length : Int)) (hr : (rl, listOf rv.toArray re) ∈ news) (hrz : rv.length ≤ 1000) (hrx : rv[(ws.getD i.toNat 0).toNat]? = some (.ref x)) (hx : (x, instObj 32 xd) ∈ news) (hxd : (xd, dictOf (ruleD w.params kr ri rl1 tp tr) 7) ∈ news) (ht : (tp, tupOf tv.toArray te) ∈ news) (hti : IntsAre tv r) (htz : r.length ≤ 1000) (hdot : 0 ≤ i - os.getD (ws.getD i.toNat 0).toNat 0)
    (hR : ∀ h' tk' t' v, v = (if i - os.getD (ws.getD i.toNat 0).toNat 0 < (r.length : Int) then r.getD (i - os.getD (ws.getD i.toNat 0).toNat 0).toNat 0 else -1 : Int) → Fr h₀ L h' m → News h₀ L h' news → R (.ok (.ret (.int v t'))) { s with heap := h', toks := tk' }) :
    codeAny (model PySem.Challenge.rw_on0156_01.row.prog w) ⟨none, d, some (env :: outer), gs, u⟩ (.call (.ref 111) ⟨[.ref g, .int i ti], []⟩) R s := by
  revert B F X₀ T
  w_top off
  k_fill
  intro B F X₀ T
  have htl := hti.length
  k_enter
  k_steps
  · exact hR _ _ _ _ (if_pos (by omega)).symm (by assumption) (by assumption)
  · exact hR _ _ _ _ (if_neg (by omega)).symm (by assumption) (by assumption)
end

end Mine
namespace Mine
section
variable {prog : Program} {w : World} {A : Around} {E : Value → Shared → Prop} {s : Shared} {h₀ : Heap} {L : Addr} {m : Str → Option Value} {env : Env}

/-- the turns of a comprehension, by a word of one's own over the items made and the ledger -/
theorem rest_ind {elt : Expr} {x : Str} {scope : Scope} {cl : List (Str × Addr)} {S : List (Addr × Obj) → Prop} {P : Nat → Value → Prop} {Fin : List Value → List (Addr × Obj) → Prop} {n : Nat}
    (Inv : Nat → List Value → List (Addr × Obj) → Prop)
    (step : ∀ i ys news v I oI C oC D m₂ h tk (E' : Value → Shared → Prop), i < n → Inv i ys news → P i v → LCg.NsObj oC m₂ → m₂ x = some v → Fr h₀ L h m → News h₀ L h ((I, oI) :: (C, oC) :: (D, LCg.lst ys) :: news) →
      LCg.Off3 I C D news → ((@Ne Nat I C) ∧ (@Ne Nat I D) ∧ (@Ne Nat C D)) →
      wpAny (model prog w) A (eval elt (compEnvC scope cl C env)) (LCg.CompEnd h₀ L m { s with heap := h, toks := tk } I oI C oC D (LCg.lst ys) S (fun y news' => Inv (i + 1) (ys ++ [y]) news')) E' { s with heap := h, toks := tk })
    (fin : ∀ ys news, Inv n ys news → Fin ys news) :
    ∀ k i ys news, i + k = n → Inv i ys news → LCg.CompRest prog w A h₀ L m env elt x scope cl s S P Fin k i ys news := by
  intro k
  induction k with
  | zero => intro i ys news e hI; have : i = n := by omega
            subst this; exact fin ys news hI
  | succ k ih =>
    intro i ys news e hI
    refine LCg.CompRest.succ ?_
    intro v I oI C oC D m₂ h tk E' hP hC hx F N off ne
    refine wpAny_mono (step i ys news v I oI C oC D m₂ h tk E' (by omega) hI hP hC hx F N off ne) (fun y s₂ q => ?_) fun _ _ e => e
    obtain ⟨h', tk', news', e1, F', N', off', hS, hI'⟩ := q
    exact ⟨h', tk', news', e1, F', N', off', hS, ih _ _ _ (by omega) hI'⟩

/-- the source is a tuple of the ledger -/
def SrcTu (prog : Program) (w : World) (A : Around) (h₀ : Heap) (L : Addr) (m : Str → Option Value) (env : Env) (elt : Expr) (x : Str) (scope : Scope) (cl : List (Str × Addr)) (Fin : Shared → List Value → List (Addr × Obj) → Prop) (xv : Value) (s₁ : Shared) : Prop :=
  ∃ ax its k news, xv = .ref ax ∧ A.handled = none ∧ Fr h₀ L s₁.heap m ∧ News h₀ L s₁.heap news ∧ (ax, tupOf its k) ∈ news ∧ its.size ≤ sizeLine ∧
    ∀ s₂ : Shared, (∃ h, s₂ = { s₁ with heap := h }) → LCg.CompRest prog w A h₀ L m env elt x scope cl s₂ (fun nw => (ax, tupOf its k) ∈ nw) (fun i v => its[i]? = some v) (Fin s₂) its.size 0 [] news

theorem tup_st {ax I : Addr} {its : Array Value} {k : Nat} : ∀ i (h h' : Heap) (o : Obj) (nw : List (Addr × Obj)), (h.IsTupleIter I ax i ∧ h.IsTuple ax its) → h.get? I = some o → h'.get? I = some o → (∀ b o, h₀.get? b = some o → h'.get? b = some o) → News h₀ L h' nw → (ax, tupOf its k) ∈ nw → (h'.IsTupleIter I ax i ∧ h'.IsTuple ax its) :=
  fun i h h' o nw st e e' _ N S => ⟨by obtain ⟨o', q, r⟩ := st.1; rw [e] at q; cases q; exact ⟨o, e', r⟩, News.isTup N S⟩

theorem assign_comp_tup {elt iter : Expr} {x y : Str} {px py : Pos} {scope : Scope} {cl : List (Str × Addr)} {pos spos : Pos} {Q : Flow → Shared → Prop} (_F₀ : Fr h₀ L s.heap m) (hLe : env.locals = L)
    (hsw : swapsWith (.ListComp elt [⟨.Name x px, iter, [], 0⟩] scope pos) (some (.Name y py)) spos.line env = pure true)
    (hclos : closureFor scope env = pure cl) (hcell : ∀ z ∈ scope.names, z.2 ≠ .cell) (hkind : scope.kind = .function)
    (hnames : ∀ z ∈ scope.names, z.2 = .local → scope.names.lookup z.1 = some .local) (hx : scope.names.lookup x = some .local)
    (hy : env.kindOf y = some .local) (hp : (env.scope.kind == .class || (env.scope.kind == .module && env.locals != env.globals)) = false)
    (h : wpAny (model prog w) A (eval iter env) (SrcTu prog w A h₀ L m env elt x scope cl (fun s₂ => LCg.FinA h₀ L m s₂ y Q)) E s)
    (hs : ∀ x, foldedSetIterable iter env x = pure x := by intro _; rfl) :
    wpAny (model prog w) A (exec (.Assign [.Name y py] (.ListComp elt [⟨.Name x px, iter, [], 0⟩] scope pos) spos) env) Q E s := by
  subst hLe
  rw [exec_Assign_Name_used _ _ _ _ hsw]
  refine wpAny_bind (wpAny_standAt (wpAny_bind ?_))
  show wpAny _ A (do let _ ← comprehension (.ListComp elt [⟨.Name x px, iter, [], 0⟩] scope pos) scope env _ (newList []) false (eval iter env) (some (assign (.Name y py) env))) _ _ s
  refine wpAny_bind (wpAny_mono (wpAny_comprehension_free (use := some (assign (.Name y py) env)) (Q := fun _ s' => Q .next s') rfl hs hclos hkind hnames
    (wpAny_mono h (fun xv s₁ h₁ => ?_) fun _ _ e => e)) (fun _ s' hq => wpAny_pure (wpAny_pure hq)) fun _ _ e => e)
  obtain ⟨ax, its, kt, news, rfl, hh, F, N, S, hsz, Rs⟩ := h₁
  have hl : s₁.heap.IsTuple ax its := News.isTup N S
  have hlt : ax < s₁.heap.objs.size := Heap.lt_size (N _ S).1
  refine wpAny_pyIter_tuple hl ?_
  have up : ∀ b o, s₁.heap.get? b = some o → (s₁.heap.push { cls := .type "tuple_iterator", data := .fields #[.ref ax, .int 0 0] }).get? b = some o := fun b o e => Heap.get?_push_of_some _ e
  refine LCg.block_U (Walks.tuple hh s₁.heap.objs.size ax (Nat.ne_of_lt hlt) its) hsz (fun i h st => by obtain ⟨o, e, _⟩ := st.1; exact ⟨o, e⟩) tup_st hcell hkind hx ⟨⟨_, Heap.get?_push_size _ rfl, rfl, rfl⟩, hl.at fun o e => up _ o e⟩ (fun b hb => ?_)
    (F.keeps up) (N.grown up) (Nat.ne_of_lt F.ns.lt) (next_is_new F) (fun p hp => Nat.ne_of_lt (Heap.lt_size (N p hp).1)) S (Rs _ ⟨_, rfl⟩) ?_
  · show b < (s₁.heap.push _).objs.size
    rw [Heap.size_push]
    rcases List.mem_cons.mp hb with rfl | hb
    · exact Nat.lt_succ_self _
    · rw [List.mem_singleton.mp hb]; exact Nat.lt_succ_of_lt hlt
  · intro D C h' tk m' ys news' F' N' o1 hn hC₀ hD₀ hCL hDL hCD offC fin
    show wpAny _ A (assign (.Name y py) env (.ref D)) _ _ _
    refine wpAny_assign_Name (wpAny_storeName_local hy F'.ns (fun h₂ hn₂ hs₂ => ?_) hp)
    have hL₀ : h₀.get? env.locals = none := Heap.get?_none_of_le F'.above
    have F₂ : Fr h₀ env.locals h₂ (fun z => if z = y then some (.ref D) else m z) := ⟨hn₂, fun b o e => hs₂.extBut b o (fun q => by rw [q, hL₀] at e; cases e) (F'.keep b o e), F'.above⟩
    refine ⟨m', hn.sameBut hs₂ hCL, fun h'' hs'' => fin D h'' _ (F₂.change hs'' hCL hC₀) (fun p hp => ?_) o1⟩
    have z : h₂.get? p.1 = some p.2 := hs₂.extBut _ _ (N' p hp).2.1 (N' p hp).1
    refine ⟨hs''.extBut _ _ ?_ z, (N' p hp).2⟩
    rcases List.mem_cons.mp hp with rfl | hp
    · exact Ne.symm hCD
    · exact offC p hp

/-- where a comprehension over a list or a range begins (the walk stops here) -/
def CompAt (prog : Program) (w : World) (A : Around) (h₀ : Heap) (L : Addr) (m : Str → Option Value) (env : Env) (elt : Expr) (x : Str) (scope : Scope) (cl : List (Str × Addr)) (Fin : Shared → List Value → List (Addr × Obj) → Prop) (xv : Value) (s₁ : Shared) : Prop :=
  LCg.CompSrc prog w A h₀ L m env elt x scope cl Fin xv s₁
theorem listcomp_mine {elt iter : Expr} {x : Str} {px : Pos} {scope : Scope} {cl : List (Str × Addr)} {pos : Pos} {Q : Value → Shared → Prop} {E : Value → Shared → Prop} (F₀ : Fr h₀ L s.heap m)
    (hclos : closureFor scope env = pure cl) (hcell : ∀ y ∈ scope.names, y.2 ≠ .cell) (hkind : scope.kind = .function)
    (hnames : ∀ y ∈ scope.names, y.2 = .local → scope.names.lookup y.1 = some .local) (hx : scope.names.lookup x = some .local)
    (h : wpAny (model prog w) A (eval iter env) (CompAt prog w A h₀ L m env elt x scope cl (fun s₂ => LCg.FinE h₀ L m s₂ Q)) E s)
    (hs : ∀ x, foldedSetIterable iter env x = pure x := by intro _; rfl) :
    wpAny (model prog w) A (eval (.ListComp elt [⟨.Name x px, iter, [], 0⟩] scope pos) env) Q E s := LCg.ListComp_U F₀ hclos hcell hkind hnames hx h hs
theorem assign_comp_mine {elt iter : Expr} {x y : Str} {px py : Pos} {scope : Scope} {cl : List (Str × Addr)} {pos spos : Pos} {Q : Flow → Shared → Prop} {E : Value → Shared → Prop} (F₀ : Fr h₀ L s.heap m) (hLe : env.locals = L)
    (hsw : swapsWith (.ListComp elt [⟨.Name x px, iter, [], 0⟩] scope pos) (some (.Name y py)) spos.line env = pure true)
    (hclos : closureFor scope env = pure cl) (hcell : ∀ z ∈ scope.names, z.2 ≠ .cell) (hkind : scope.kind = .function)
    (hnames : ∀ z ∈ scope.names, z.2 = .local → scope.names.lookup z.1 = some .local) (hx : scope.names.lookup x = some .local)
    (hy : env.kindOf y = some .local) (hp : (env.scope.kind == .class || (env.scope.kind == .module && env.locals != env.globals)) = false)
    (h : wpAny (model prog w) A (eval iter env) (CompAt prog w A h₀ L m env elt x scope cl (fun s₂ => LCg.FinA h₀ L m s₂ y Q)) E s)
    (hs : ∀ x, foldedSetIterable iter env x = pure x := by intro _; rfl) :
    wpAny (model prog w) A (exec (.Assign [.Name y py] (.ListComp elt [⟨.Name x px, iter, [], 0⟩] scope pos) spos) env) Q E s := LCg.Assign_ListComp_U F₀ hLe hsw hclos hcell hkind hnames hx hy hp h hs
end

end Mine
theorem Mine.rows_3 : True := by
  k_with_none
  (k_with "k_mem" => first | with_reducible assumption | exact List.mem_cons_self | (refine' List.mem_cons_of_mem _ ?_; k_mem))
  (k_with "k_all" => first | with_reducible assumption | exact Mine.offL_ne _ _ | exact Mine.allLt_ne (by assumption) | exact Mine.ltAll_ne (by assumption))
  (k_with "k_ne" => (refine neN ?_; (try dsimp only); first | assumption | exact Ne.symm (by assumption) | exact Nat.ne_of_lt (by assumption) | exact Nat.ne_of_gt (by assumption)))
  (k_with "k_room" => ((try simp only [depth_under_make, depth_under_kw, depth_in1, depth_deeper, depth_caller]); (have hrl9 : recursionLimit = 1000 := by rfl); (try dsimp only); omega))
  (k_with "k_units" => ((have hcL9 := cLine_is); (try simp only [units_in1, units_deeper, Around.mark_units, units_caller]); (try dsimp only); omega))
  (k_with "mok" => (all_goals first | (fail_if_success (with_reducible show (_ : Prop))) | (with_reducible show wpAny _ _ _ _ _ _) | (fail_if_success (fail_if_success intro _))))
  (k_with "mc" => (try any_goals ((with_reducible show Fr _ _ _ _); k_asm)); (try any_goals ((with_reducible show (_ : Prop)); (fail_if_success (with_reducible show wpAny _ _ _ _ _ _)); first | k_mem | k_asm | (intro vz8 nz8; k_upd) | ((fail_if_success intro _); first | exact rfl | ((with_reducible show (_ : Nat) < _); first | k_room | k_units) | ((try rw [sizeLine_eq]); (try simp only [List.size_toArray, List.length_append, List.length_cons, List.length_nil, Array.length_toList, List.length_replicate]); omega) | exact News.isList (by k_asm) (by k_mem) | exact News.isTup (by k_asm) (by k_mem) | k_upd))); k_extra "mok")
  (k_with "me" => ((try dsimp only); (try k_sweep)))
  (k_with "ment" => (try any_goals ((with_reducible show Below _ _ _ _); k_asm)); (try any_goals ((with_reducible show Fr _ _ _ _); k_asm)); (try any_goals ((with_reducible show Frag.In _ _); k_asm)); (try any_goals ((with_reducible show News _ _ _ _); k_asm)); (try any_goals ((with_reducible show Top _ _ _ _ _ _); k_asm)); (try any_goals ((with_reducible show (_ : Option _) = _); k_is)); (try any_goals ((with_reducible show codeIn _ _ _ = _); k_is)); (try any_goals ((with_reducible show (_ : Nat) < _); k_room)); (try any_goals ((with_reducible show BindsTo _ _ _ _); first | exact BindsTo.of_eq rfl | exact binds_K (by k_in) rfl (by k_is) rfl rfl rfl | fail "k_enter: no rule for these arguments")))
  (k_with "k_enter" => (refine' code_def ?_ ?_ ?_ ?_ ?_ (by exact rfl) (by first | exact rfl | assumption) (by first | exact rfl | assumption) ?_ ?_ ?_ ?_ ?_ ?_ ?_ ?_ ?_ ?_; k_extra "ment"; (try any_goals ((with_reducible show (_ : Bool) = _); exact rfl)); (try any_goals ((with_reducible show (_ : ScopeKind) = _); exact rfl)); (any_goals exact locs rfl); (any_goals ((with_reducible show ∀ x ∈ Scope.names _, _); decide)); k_extra "mok"; k_whole; intro _ _ _ _ _ _ Bz9 _ _; (try dsimp only); (try k_lift Bz9); (try k_fold)))
  (k_with "k_enter" => (refine' code_defC ?_ ?_ ?_ ?_ ?_ (by exact rfl) (by first | exact rfl | assumption) (by first | exact rfl | assumption) ?_ ?_ ?_ ?_ ?_ ?_ ?_ ?_ ?_ ?_; k_extra "ment"; (try any_goals ((with_reducible show (_ : Bool) = _); exact rfl)); (try any_goals ((with_reducible show (_ : ScopeKind) = _); exact rfl)); (any_goals ((with_reducible show List.Nodup _); decide +kernel)); k_extra "mok"; k_whole; intro _ _ _ _ _ _ _ Nz9 Yz9 Bz9 _ _ lz9; (try k_lt lz9); k_cells Yz9; (try simp only [List.cons_append, List.nil_append] at Nz9); (try dsimp only); (try k_lift Bz9); (try k_fold)))
  (k_with "k_enter" => ((with_reducible refine' Mine.gAt 138 ?_); refine' Mine.take_specU ?_ ?_ ?_ ?_ ?_ ?_ ?_ ?_ ?_ ?_ ?_ ?_ ?_ ?_; k_extra "mc"; intro _ _ _ _ _ _ _ _ _ _ _ _; k_extra "me"))
  (k_with "call builtin:len" => (k_here; (with_reducible show wpAny _ _ (call (Value.builtin "len") [Value.ref _]) _ _ _); k_dflt (first | (refine Mine.len_led (by k_asm) (by k_mem) (by (simp only [List.size_toArray]; omega)) ?_; k_whole; (try simp only [List.size_toArray])) | (refine Mine.lent_led (by k_asm) (by k_mem) (by (simp only [List.size_toArray]; omega)) ?_; k_whole; (try simp only [List.size_toArray])))))
  (k_with "subscriptTail" => (k_here; (with_reducible show wpAny _ _ (subscriptTail _ _ (Value.ref _) (Value.int _ _)) _ _ _); k_dflt (first | (refine Mine.item_led (by k_asm) (by k_mem) (by omega) (by with_reducible assumption) (by omega) ?_; k_whole) | (refine Mine.itemt_led (by k_asm) (by k_mem) (by omega) (by with_reducible assumption) (by omega) ?_; k_whole))))
  (k_with "compareOp In" => (k_here; (with_reducible show wpAny _ _ (compareOp CmpOp.In (Value.str _ _) (Value.ref _)) _ _ _); k_dflt (refine Mine.in_strs (by k_asm) (by k_mem) (by with_reducible assumption) ?_; k_whole)))
  (k_with "call builtin:list.index" => (k_here; (with_reducible show wpAny _ _ (call (Value.builtin _) [Value.ref _, Value.str _ _]) _ _ _); k_dflt (refine Mine.index_strs (by k_asm) (by k_mem) (by with_reducible assumption) (by omega) (by first | assumption | (simp_all; done)) ?_; k_whole)))
  (k_with "call type:list" => (k_here; (with_reducible show wpAny _ _ (call (Value.type _) [Value.ref _]) _ _ _); (with_unfolding_all first | (refine list_copyK (by k_asm) (by k_asm) (by exact News.isList (by k_asm) (by k_mem)) ?_ (by (rw [sizeLine_eq]; simp only [List.size_toArray]; omega)); k_whole) | (refine list_copyKT (by k_asm) (by k_asm) (by exact News.isTup (by k_asm) (by k_mem)) ?_ (by (rw [sizeLine_eq]; simp only [List.size_toArray]; omega)); k_whole)); intro _ _ _ _ _ lz9; (try k_lt lz9); (try k_sweep)))
  (k_with "binaryOp Add ref ref" => (k_here; (with_reducible show wpAny _ _ (binaryOp _ (Value.ref _) (Value.ref _)) _ _ _); k_dflt (refine' Mine.add_led ?_ ?_ ?_ ?_ ?_ ?_; k_extra "mc"); intro _ _ _ _ lz9; (try k_lt lz9); (try k_sweep)))
  (k_with "binaryOp Add str str" => (k_here; (with_reducible show wpAny _ _ (binaryOp _ (Value.str _ _) (Value.str _ _)) _ _ _); k_dflt (refine PyProof.Rows.add_str ?_ (by with_reducible assumption)); intro _ _))
  (k_with "k_enter" => ((with_reducible refine' Mine.gAt 55 ?_); refine' Mine.symbolCount_spec ?_ ?_ ?_ ?_ ?_ ?_ ?_ ?_ ?_ ?_ ?_ ?_ ?_ ?_; k_extra "mc"; intro _ _ _ _ _; k_extra "me"))
  (k_with "k_enter" => ((with_reducible refine' Mine.gAt 62 ?_); refine' Mine.isTerminal_spec ?_ ?_ ?_ ?_ ?_ ?_ ?_ ?_ ?_ ?_ ?_ ?_; k_extra "mc"; intro _ _ _ _; k_extra "me"))
  (k_with "k_enter" => ((with_reducible refine' Mine.gAt 69 ?_); refine' Mine.isMiddle_spec ?_ ?_ ?_ ?_ ?_ ?_ ?_ ?_ ?_ ?_ ?_ ?_ ?_ ?_ ?_ ?_ ?_; k_extra "mc"; intro _ _ _ _; k_extra "me"))
  (k_with "k_enter" => ((with_reducible refine' Mine.gAt 76 ?_); refine' Mine.number_spec ?_ ?_ ?_ ?_ ?_ ?_ ?_ ?_ ?_ ?_ ?_ ?_ ?_ ?_ ?_ ?_; k_extra "mc"; intro _ _ _ _ _ _ _; k_extra "me"))
  (k_with "k_enter" => ((with_reducible refine' Mine.gAt 83 ?_); refine' Mine.rulesOf_spec ?_ ?_ ?_ ?_ ?_ ?_ ?_ ?_ ?_ ?_ ?_ ?_ ?_ ?_ ?_ ?_ ?_ ?_ ?_; k_extra "mc"; intro _ _ _ _ _ _ lz9; (try k_lt lz9); k_extra "me"))
  (k_with "k_enter" => ((with_reducible refine' Mine.gAt 90 ?_); refine' Mine.item_spec ?_ ?_ ?_ ?_ ?_ ?_ ?_ ?_ ?_ ?_ ?_ ?_ ?_ ?_ ?_ ?_; k_extra "mc"; intro _ _ _ _ _; k_extra "me"))
  (k_with "k_enter" => ((with_reducible refine' Mine.gAt 97 ?_); refine' Mine.ruleOf_spec ?_ ?_ ?_ ?_ ?_ ?_ ?_ ?_ ?_ ?_ ?_ ?_ ?_ ?_ ?_ ?_; k_extra "mc"; intro _ _ _ _ _; k_extra "me"))
  (k_with "k_enter" => ((with_reducible refine' Mine.gAt 104 ?_); refine' Mine.dotOf_spec ?_ ?_ ?_ ?_ ?_ ?_ ?_ ?_ ?_ ?_ ?_ ?_ ?_ ?_ ?_ ?_ ?_ ?_ ?_ ?_; k_extra "mc"; intro _ _ _ _ _; k_extra "me"))
  (k_with "k_enter" => ((with_reducible refine' Mine.gAt 111 ?_); refine' Mine.after_spec ?_ ?_ ?_ ?_ ?_ ?_ ?_ ?_ ?_ ?_ ?_ ?_ ?_ ?_ ?_ ?_ ?_ ?_ ?_ ?_ ?_ ?_ ?_ ?_ ?_ ?_ ?_ ?_ ?_; k_extra "mc"; intro _ _ _ _ _ _ _; k_extra "me"))
  (k_with "exec Assign cons ListComp" => (k_here; k_dflt (refine Mine.assign_comp_tup (by k_asm) (by rfl) (by with_unfolding_all rfl) (by rfl) (by decide) (by rfl) (by decide) (by rfl) (by rfl) (by rfl) ?_)))
  trivial
namespace Mine
section
variable {w : World} {d u : Nat} {outer : List Env} {gs : Option (List Code)} {env : Env} {h₀ base : Heap} {L : Addr} {m : Str → Option Value}
    {mg mb : Str → Option Value} {mean : ExcName → Option Value} {A₀ : Around} {s : Shared} {R : Result → Shared → Prop} {news : List (Addr × Obj)}
/-- the words of a right side, a dot among them, and the line that is shown -/
def wordsL (names : List Str) (r : List Int) : List Str := r.map fun k => names.getD k.toNat (Str.ofString "")
def dotted (ws : List Str) (dot : Int) : List Str := if 0 ≤ dot then ws.take dot.toNat ++ [Str.ofString "."] ++ ws.drop dot.toNat else ws
def shownS (names : List Str) (l : Int) (r : List Int) (dot : Int) : Str := (names.getD l.toNat (Str.ofString "") ++ Str.ofString " : ") ++ Txt.join (Str.ofString " ") (dotted (wordsL names r) dot)
theorem dotted_pos {ws : List Str} {dot : Int} (h : 0 ≤ dot) : dotted ws dot = ws.take dot.toNat ++ [Str.ofString "."] ++ ws.drop dot.toNat := if_pos h
theorem dotted_neg {ws : List Str} {dot : Int} (h : ¬ 0 ≤ dot) : dotted ws dot = ws := if_neg h
theorem dotted_mem {ws : List Str} {dot : Int} (h : ∀ y ∈ ws, y.length ≤ 20) : ∀ y ∈ dotted ws dot, y.length ≤ 20 := by
  intro y hy
  unfold dotted at hy
  split at hy
  · rcases List.mem_append.mp hy with hy | hy
    · rcases List.mem_append.mp hy with hy | hy
      · exact h y (List.mem_of_mem_take hy)
      · rw [List.mem_singleton.mp hy]; decide
    · exact h y (List.mem_of_mem_drop hy)
  · exact h y hy
theorem dotted_len (ws : List Str) (dot : Int) : (dotted ws dot).length ≤ ws.length + 1 := by
  unfold dotted
  split
  · simp only [List.length_append, List.length_take, List.length_drop, List.length_cons, List.length_nil]; omega
  · omega
theorem getD_get {names : List Str} {j : Nat} (h : j < names.length) : names[j]? = some (names.getD j (Str.ofString "")) := by simp [h]
theorem words_mem {names : List Str} {r : List Int} (hnl : ∀ x ∈ names, x.length ≤ 20) : ∀ y ∈ wordsL names r, y.length ≤ 20 := by
  intro y hy
  obtain ⟨k, _, rfl⟩ := List.mem_map.mp hy
  rcases Nat.lt_or_ge k.toNat names.length with h1 | h1
  · exact hnl _ (List.mem_of_getElem? (getD_get h1))
  · simp only [List.getD_eq_getElem?_getD, List.getElem?_eq_none h1, Option.getD_none]; decide
theorem shown_fits {names : List Str} {r : List Int} {dot : Int} (hnl : ∀ x ∈ names, x.length ≤ 20) (hrl : r.length ≤ 10) :
    ((dotted (wordsL names r) dot).map (·.length)).sum + (dotted (wordsL names r) dot).length * (Str.ofString " ").length ≤ 16777216 := by
  have h1 := dotted_mem (dot := dot) (words_mem (r := r) hnl)
  have h2 := dotted_len (wordsL names r) dot
  have h3 := sum_len_le h1
  have h4 : (wordsL names r).length = r.length := List.length_map ..
  have h5 : (Str.ofString " ").length = 1 := by decide
  rw [h5]; omega
theorem shown_size {names : List Str} {l : Int} {r : List Int} {dot : Int} (hnl : ∀ x ∈ names, x.length ≤ 20) (hrl : r.length ≤ 10) (hl : 0 ≤ l ∧ l < (names.length : Int)) :
    (names.getD l.toNat (Str.ofString "") ++ Str.ofString " : ").length + (Txt.join (Str.ofString " ") (dotted (wordsL names r) dot)).length ≤ sizeLine := by
  have h1 := dotted_mem (dot := dot) (words_mem (r := r) hnl)
  have h2 := dotted_len (wordsL names r) dot
  have h3 := join_len_le h1
  have h4 : (wordsL names r).length = r.length := List.length_map ..
  have h5 : (names.getD l.toNat (Str.ofString "")).length ≤ 20 := hnl _ (List.mem_of_getElem? (getD_get (by omega)))
  have h6 : (names.getD l.toNat (Str.ofString "") ++ Str.ofString " : ").length = (names.getD l.toNat (Str.ofString "")).length + 3 := by
    rw [Str.length_append]; rfl
  rw [sizeLine_eq, h6]; omega
theorem lawShown_spec {an tp : Addr} {l dot : Int} {tl td : Tok} {nv tv : List Value} {ne te : Nat} {names : List Str} {r : List Int} (B : Below A₀ base outer h₀) (F : Fr h₀ L s.heap m) (X₀ : (Mine.hd.heap_39 w.params).In h₀) (N : News h₀ L s.heap news)
    (T : Top Mine.hd.view_39 (looseW Mine.hd.view_39 [Str.ofString "show_rule"]) mean mg mb h₀) (hf : env.frame = some L) (hke : env.scope.kind = .function) (hd : d < 600) (hu : u < 5000)
    (hn : (an, listOf nv.toArray ne) ∈ news) (hns : StrsAre nv names) (hz : nv.length ≤ 1000) (ht : (tp, tupOf tv.toArray te) ∈ news) (hti : IntsAre tv r)
    (hr : ∀ x ∈ r, 0 ≤ x ∧ x < (names.length : Int)) (hrl : r.length ≤ 10) (hl : 0 ≤ l ∧ l < (names.length : Int)) (hnl : ∀ x ∈ names, x.length ≤ 20)
    (hR : ∀ h' tk' t', Fr h₀ L h' m → News h₀ L h' news → R (.ok (.ret (.str (shownS names l r dot) t'))) { s with heap := h', toks := tk' }) :
    codeAny (model PySem.Challenge.rw_on0156_01.row.prog w) ⟨none, d, some (env :: outer), gs, u⟩ (.call (.ref 143) ⟨[.ref an, .int l tl, .ref tp, .int dot td], []⟩) R s := by
  revert B F X₀ T
  w_top off
  k_fill
  intro B F X₀ T
  have htl := hti.length
  k_enter
  k_steps
  refine ⟨tp, tv.toArray, te, _, rfl, rfl, by k_asm, by k_asm, by k_mem, by (rw [sizeLine_eq, List.size_toArray]; omega), ?_⟩
  rintro s₂ ⟨hh, rfl⟩
  refine rest_ind (fun i ys nw => nw = _ ∧ StrsAre ys ((r.take i).map fun k => names.getD k.toNat (Str.ofString ""))) ?_ ?_ _ 0 [] _ (Nat.zero_add _) ⟨rfl, .nil⟩
  · rintro i ys nw v I oI C oC D m₂ h' tk' E' hi ⟨rfl, hys⟩ hP hC hx F' N' off' ne'
    have hir : i < r.length := by simpa [htl] using hi
    obtain ⟨t9, hv9⟩ := hti.get i r[i] (by simp [hir])
    have hv : v = .int r[i] t9 := by
      have h1 : tv[i]? = some v := by simpa using hP
      rw [hv9] at h1; exact (Option.some.inj h1).symm
    subst hv
    obtain ⟨hr0, hr1⟩ := hr r[i] (List.getElem_mem hir)
    obtain ⟨t8, hv8⟩ := strs_get hns (j := (r[i]).toNat) (x := names.getD (r[i]).toNat (Str.ofString "")) (getD_get (by omega))
    k_steps
    exact LCg.CompEnd.intro F' N' _ (fun p hp => hp) off' (by k_mem) ⟨rfl, by
      rw [List.take_add_one, List.map_append, List.getElem?_eq_getElem hir]
      exact strs_append hys (.cons _ _ .nil)⟩
  · rintro ys nw ⟨rfl, hys⟩
    have hys' : StrsAre ys (r.map fun k => names.getD k.toNat (Str.ofString "")) := by
      rw [List.size_toArray, htl, List.take_length] at hys; exact hys
    have hyl : ys.length = r.length := by rw [strs_len hys', List.length_map]
    have hp1 : (slicePick ys.toArray none (some dot) none).size ≤ 10 := Nat.le_trans (slicePick_size_le _ _ _ _) (by rw [List.size_toArray]; omega)
    have hp2 : (slicePick ys.toArray (some dot) none none).size ≤ 10 := Nat.le_trans (slicePick_size_le _ _ _ _) (by rw [List.size_toArray]; omega)
    obtain ⟨tl8, hlx⟩ := strs_get hns (j := l.toNat) (x := names.getD l.toNat (Str.ofString "")) (getD_get (by omega))
    have hnl1 : (names.getD l.toNat (Str.ofString "")).length ≤ 20 := hnl _ (List.mem_of_getElem? (getD_get (by omega)))
    have hsp1 : (names.getD l.toNat (Str.ofString "")).length + (Str.ofString " : ").length ≤ sizeLine := by
      have e3 : (Str.ofString " : ").length = 3 := by decide
      rw [sizeLine_eq, e3]; omega
    have hsp2 := shown_size (dot := dot) hnl hrl hl
    walk_at "FinA"
    k_steps
    · refine' join_led (ys := dotted (wordsL names r) dot) ?N ?hm ?hi ?hok ?_
      case N => k_asm
      case hm => k_mem
      case hi => (rw [dotted_pos (by assumption)]; exact strs_append (strs_append (strs_upto hys' (by assumption)) (.cons _ _ .nil)) (strs_from hys' (by assumption)))
      case hok => exact shown_fits hnl hrl
      intro t8 k8
      k_steps
      exact hR _ _ _ (by assumption) (news_sub (by assumption) (by intro p hp; (repeat (first | exact hp | refine List.mem_cons_of_mem _ ?_))))
    · refine' join_led (ys := dotted (wordsL names r) dot) ?N ?hm ?hi ?hok ?_
      case N => k_asm
      case hm => k_mem
      case hi => (rw [dotted_neg (by assumption)]; exact hys')
      case hok => exact shown_fits hnl hrl
      intro t8 k8
      k_steps
      exact hR _ _ _ (by assumption) (news_sub (by assumption) (by intro p hp; (repeat (first | exact hp | refine List.mem_cons_of_mem _ ?_))))
end

end Mine
namespace Mine
theorem off1_ne {D : Addr} : ∀ {l : List (Addr × Obj)}, LCg.Off1 D l → ∀ p ∈ l, p.1 ≠ D := by
  intro l
  induction l with
  | nil => intro _ p hp; cases hp
  | cons q r ih =>
    intro h p hp
    rcases List.mem_cons.mp hp with e | hp
    · rw [e]; exact h.1
    · exact ih h.2 p hp
theorem strs_ins {ys : List Value} {ws : List Str} {dot : Int} {t : Tok} (h : StrsAre ys ws) (h0 : 0 ≤ dot) : StrsAre (kl_ins ys dot (.str (Str.ofString ".") t)) (dotted ws dot) := by
  have hl := strs_len h
  have h1 : ¬ dot < 0 := by omega
  rw [dotted_pos h0]
  unfold kl_ins
  rw [if_neg h1]
  rcases Nat.le_total dot.toNat ys.length with h2 | h2
  · rw [Nat.min_eq_left h2, List.append_assoc]
    exact strs_append (strs_take h _) (.cons _ _ (strs_drop h _))
  · rw [Nat.min_eq_right h2, List.append_assoc, List.take_length, List.drop_length]
    rw [List.take_of_length_le (by omega), List.drop_of_length_le (by omega)]
    exact strs_append h (.cons _ _ .nil)
section
variable {w : World} {d u : Nat} {outer : List Env} {gs : Option (List Code)} {env : Env} {h₀ base : Heap} {L : Addr} {m : Str → Option Value}
    {mg mb : Str → Option Value} {mean : ExcName → Option Value} {A₀ : Around} {s : Shared} {R : Result → Shared → Prop} {news : List (Addr × Obj)}
    {k : Nat → Tok} {an : Addr} {cnt : Int} {rl lv : Addr} {st : Int} {bl off ow : Addr} {ic : Int} {t : Nat → Tok} {g gd : Addr}
theorem showRule_spec {i dot l ri : Int} {ti td : Tok} {nv tv rv : List Value} {ne te re : Nat} {names : List Str} {r : List Int} {x xd tp : Addr} {kr tr : Nat → Tok} (B : Below A₀ base outer h₀) (F : Fr h₀ L s.heap m) (X₀ : (Mine.hd.heap_39 w.params).In h₀) (N : News h₀ L s.heap news)
    (T : Top Mine.hd.view_39 (looseW Mine.hd.view_39 [Str.ofString "show_rule"]) mean mg mb h₀) (hf : env.frame = some L) (hke : env.scope.kind = .function) (hd : d < 600) (hu : u < 5000)
    (hg : (g, instObj 114 gd) ∈ news) (hgd : (gd, dictOf (gramD w.params k an cnt rl lv st bl off ow ic t) 10) ∈ news)
    (hn : (an, listOf nv.toArray ne) ∈ news) (hns : StrsAre nv names) (hz : nv.length ≤ 1000)
    (hrv : (rl, listOf rv.toArray re) ∈ news) (hrz : rv.length ≤ 1000) (h0 : 0 ≤ i) (hrx : rv[i.toNat]? = some (.ref x)) (hx : (x, instObj 32 xd) ∈ news) (hxd : (xd, dictOf (ruleD w.params kr ri l tp tr) 7) ∈ news)
    (ht : (tp, tupOf tv.toArray te) ∈ news) (hti : IntsAre tv r)
    (hr : ∀ x ∈ r, 0 ≤ x ∧ x < (names.length : Int)) (hrl : r.length ≤ 10) (hl : 0 ≤ l ∧ l < (names.length : Int)) (hnl : ∀ x ∈ names, x.length ≤ 20)
    (hdot : dot < 1000)
    (hR : ∀ h' tk' t', Fr h₀ L h' m → News h₀ L h' news → R (.ok (.ret (.str (shownS names l r dot) t'))) { s with heap := h', toks := tk' }) :
    codeAny (model PySem.Challenge.rw_on0156_01.row.prog w) ⟨none, d, some (env :: outer), gs, u⟩ (.call (.ref 124) ⟨[.ref g, .int i ti, .int dot td], []⟩) R s := by
  revert B F X₀ T
  w_top off
  k_fill
  intro B F X₀ T
  have htl := hti.length
  k_enter
  k_steps
  refine ⟨tp, tv.toArray, te, _, rfl, rfl, by k_asm, by k_asm, by k_mem, by (rw [sizeLine_eq, List.size_toArray]; omega), ?_⟩
  rintro s₂ ⟨hh, rfl⟩
  refine rest_ind (fun i ys nw => nw = _ ∧ StrsAre ys ((r.take i).map fun k => names.getD k.toNat (Str.ofString ""))) ?_ ?_ _ 0 [] _ (Nat.zero_add _) ⟨rfl, .nil⟩
  · rintro i ys nw v I oI C oC D m₂ h' tk' E' hi ⟨rfl, hys⟩ hP hC hx F' N' off' ne'
    have hir : i < r.length := by simpa [htl] using hi
    obtain ⟨t9, hv9⟩ := hti.get i r[i] (by simp [hir])
    have hv : v = .int r[i] t9 := by
      have h1 : tv[i]? = some v := by simpa using hP
      rw [hv9] at h1; exact (Option.some.inj h1).symm
    subst hv
    obtain ⟨hr0, hr1⟩ := hr r[i] (List.getElem_mem hir)
    obtain ⟨t8, hv8⟩ := strs_get hns (j := (r[i]).toNat) (x := names.getD (r[i]).toNat (Str.ofString "")) (getD_get (by omega))
    k_steps
    exact LCg.CompEnd.intro F' N' _ (fun p hp => hp) off' (by k_mem) ⟨rfl, by
      rw [List.take_add_one, List.map_append, List.getElem?_eq_getElem hir]
      exact strs_append hys (.cons _ _ .nil)⟩
  · rintro ys nw ⟨rfl, hys⟩
    have hys' : StrsAre ys (r.map fun k => names.getD k.toNat (Str.ofString "")) := by
      rw [List.size_toArray, htl, List.take_length] at hys; exact hys
    have hyl : ys.length = r.length := by rw [strs_len hys', List.length_map]
    obtain ⟨tl8, hlx⟩ := strs_get hns (j := l.toNat) (x := names.getD l.toNat (Str.ofString "")) (getD_get (by omega))
    have hnl1 : (names.getD l.toNat (Str.ofString "")).length ≤ 20 := hnl _ (List.mem_of_getElem? (getD_get (by omega)))
    have hsp1 : (names.getD l.toNat (Str.ofString "")).length + (Str.ofString " : ").length ≤ sizeLine := by
      have e3 : (Str.ofString " : ").length = 3 := by decide
      rw [sizeLine_eq, e3]; omega
    have hsp2 := shown_size (dot := dot) hnl hrl hl
    unfold LCg.FinA
    intro D' h' tk' F' N' o1'
    have o1n := off1_ne o1'.2
    have o1c := o1'.1
    clear o1'
    k_steps
    · refine' kl_insert (l := kl_ins ys dot _) ?F ?N ?f rfl ?U ?z ?_
      case F => k_asm
      case N => k_asm
      case U => k_upd
      case f => (unfold Builtin.List.listFitsIndex; simp; omega)
      case z => (rw [sizeLine_eq]; show ys.length ≤ _; omega)
      intro h' F' N'
      k_steps
      refine' join_led (ys := dotted (wordsL names r) dot) ?N ?hm ?hi ?hok ?_
      case N => k_asm
      case hm => k_mem
      case hi => exact strs_ins hys' (by assumption)
      case hok => exact shown_fits hnl hrl
      intro t8 k8
      k_steps
      exact hR _ _ _ (by assumption) (news_sub (by assumption) (by intro p hp; (repeat (first | exact hp | refine List.mem_cons_of_mem _ ?_))))
    · refine' join_led (ys := dotted (wordsL names r) dot) ?N ?hm ?hi ?hok ?_
      case N => k_asm
      case hm => k_mem
      case hi => (rw [dotted_neg (by assumption)]; exact hys')
      case hok => exact shown_fits hnl hrl
      intro t8 k8
      k_steps
      exact hR _ _ _ (by assumption) (news_sub (by assumption) (by intro p hp; (repeat (first | exact hp | refine List.mem_cons_of_mem _ ?_))))
theorem showRule0_spec {i l ri : Int} {ti : Tok} {nv tv rv : List Value} {ne te re : Nat} {names : List Str} {r : List Int} {x xd tp : Addr} {kr tr : Nat → Tok} (B : Below A₀ base outer h₀) (F : Fr h₀ L s.heap m) (X₀ : (Mine.hd.heap_39 w.params).In h₀) (N : News h₀ L s.heap news)
    (T : Top Mine.hd.view_39 (looseW Mine.hd.view_39 [Str.ofString "show_rule"]) mean mg mb h₀) (hf : env.frame = some L) (hke : env.scope.kind = .function) (hd : d < 600) (hu : u < 5000)
    (hg : (g, instObj 114 gd) ∈ news) (hgd : (gd, dictOf (gramD w.params k an cnt rl lv st bl off ow ic t) 10) ∈ news)
    (hn : (an, listOf nv.toArray ne) ∈ news) (hns : StrsAre nv names) (hz : nv.length ≤ 1000)
    (hrv : (rl, listOf rv.toArray re) ∈ news) (hrz : rv.length ≤ 1000) (h0 : 0 ≤ i) (hrx : rv[i.toNat]? = some (.ref x)) (hx : (x, instObj 32 xd) ∈ news) (hxd : (xd, dictOf (ruleD w.params kr ri l tp tr) 7) ∈ news)
    (ht : (tp, tupOf tv.toArray te) ∈ news) (hti : IntsAre tv r)
    (hr : ∀ x ∈ r, 0 ≤ x ∧ x < (names.length : Int)) (hrl : r.length ≤ 10) (hl : 0 ≤ l ∧ l < (names.length : Int)) (hnl : ∀ x ∈ names, x.length ≤ 20)
        (hR : ∀ h' tk' t', Fr h₀ L h' m → News h₀ L h' news → R (.ok (.ret (.str (shownS names l r (-1)) t'))) { s with heap := h', toks := tk' }) :
    codeAny (model PySem.Challenge.rw_on0156_01.row.prog w) ⟨none, d, some (env :: outer), gs, u⟩ (.call (.ref 124) ⟨[.ref g, .int i ti], []⟩) R s := by
  revert B F X₀ T
  w_top off
  k_fill
  intro B F X₀ T
  have htl := hti.length
  k_enter
  k_steps
  refine ⟨tp, tv.toArray, te, _, rfl, rfl, by k_asm, by k_asm, by k_mem, by (rw [sizeLine_eq, List.size_toArray]; omega), ?_⟩
  rintro s₂ ⟨hh, rfl⟩
  refine rest_ind (fun i ys nw => nw = _ ∧ StrsAre ys ((r.take i).map fun k => names.getD k.toNat (Str.ofString ""))) ?_ ?_ _ 0 [] _ (Nat.zero_add _) ⟨rfl, .nil⟩
  · rintro i ys nw v I oI C oC D m₂ h' tk' E' hi ⟨rfl, hys⟩ hP hC hx F' N' off' ne'
    have hir : i < r.length := by simpa [htl] using hi
    obtain ⟨t9, hv9⟩ := hti.get i r[i] (by simp [hir])
    have hv : v = .int r[i] t9 := by
      have h1 : tv[i]? = some v := by simpa using hP
      rw [hv9] at h1; exact (Option.some.inj h1).symm
    subst hv
    obtain ⟨hr0, hr1⟩ := hr r[i] (List.getElem_mem hir)
    obtain ⟨t8, hv8⟩ := strs_get hns (j := (r[i]).toNat) (x := names.getD (r[i]).toNat (Str.ofString "")) (getD_get (by omega))
    k_steps
    exact LCg.CompEnd.intro F' N' _ (fun p hp => hp) off' (by k_mem) ⟨rfl, by
      rw [List.take_add_one, List.map_append, List.getElem?_eq_getElem hir]
      exact strs_append hys (.cons _ _ .nil)⟩
  · rintro ys nw ⟨rfl, hys⟩
    have hys' : StrsAre ys (r.map fun k => names.getD k.toNat (Str.ofString "")) := by
      rw [List.size_toArray, htl, List.take_length] at hys; exact hys
    have hyl : ys.length = r.length := by rw [strs_len hys', List.length_map]
    obtain ⟨tl8, hlx⟩ := strs_get hns (j := l.toNat) (x := names.getD l.toNat (Str.ofString "")) (getD_get (by omega))
    have hnl1 : (names.getD l.toNat (Str.ofString "")).length ≤ 20 := hnl _ (List.mem_of_getElem? (getD_get (by omega)))
    have hsp1 : (names.getD l.toNat (Str.ofString "")).length + (Str.ofString " : ").length ≤ sizeLine := by
      have e3 : (Str.ofString " : ").length = 3 := by decide
      rw [sizeLine_eq, e3]; omega
    have hsp2 := shown_size (dot := -1) hnl hrl hl
    unfold LCg.FinA
    intro D' h' tk' F' N' o1'
    have o1n := off1_ne o1'.2
    have o1c := o1'.1
    clear o1'
    k_steps
    refine' join_led (ys := dotted (wordsL names r) (-1)) ?N ?hm ?hi ?hok ?_
    case N => k_asm
    case hm => k_mem
    case hi => (rw [dotted_neg (by decide)]; exact hys')
    case hok => exact shown_fits hnl hrl
    intro t8 k8
    k_steps
    exact hR _ _ _ (by assumption) (news_sub (by assumption) (by intro p hp; (repeat (first | exact hp | refine List.mem_cons_of_mem _ ?_))))
end

end Mine
theorem Mine.rows_4 : True := by
  k_with_none
  (k_with "k_mem" => first | with_reducible assumption | exact List.mem_cons_self | (refine' List.mem_cons_of_mem _ ?_; k_mem))
  (k_with "k_all" => first | with_reducible assumption | exact Mine.offL_ne _ _ | exact Mine.allLt_ne (by assumption) | exact Mine.ltAll_ne (by assumption))
  (k_with "k_ne" => (refine neN ?_; (try dsimp only); first | assumption | exact Ne.symm (by assumption) | exact Nat.ne_of_lt (by assumption) | exact Nat.ne_of_gt (by assumption)))
  (k_with "k_room" => ((try simp only [depth_under_make, depth_under_kw, depth_in1, depth_deeper, depth_caller]); (have hrl9 : recursionLimit = 1000 := by rfl); (try dsimp only); omega))
  (k_with "k_units" => ((have hcL9 := cLine_is); (try simp only [units_in1, units_deeper, Around.mark_units, units_caller]); (try dsimp only); omega))
  (k_with "mok" => (all_goals first | (fail_if_success (with_reducible show (_ : Prop))) | (with_reducible show wpAny _ _ _ _ _ _) | (fail_if_success (fail_if_success intro _))))
  (k_with "mc" => (try any_goals ((with_reducible show Fr _ _ _ _); k_asm)); (try any_goals ((with_reducible show (_ : Prop)); (fail_if_success (with_reducible show wpAny _ _ _ _ _ _)); first | k_mem | k_asm | (intro vz8 nz8; k_upd) | ((fail_if_success intro _); first | exact rfl | ((with_reducible show (_ : Nat) < _); first | k_room | k_units) | ((try rw [sizeLine_eq]); (try simp only [List.size_toArray, List.length_append, List.length_cons, List.length_nil, Array.length_toList, List.length_replicate]); omega) | exact News.isList (by k_asm) (by k_mem) | exact News.isTup (by k_asm) (by k_mem) | k_upd))); k_extra "mok")
  (k_with "me" => ((try dsimp only); (try k_sweep)))
  (k_with "ment" => (try any_goals ((with_reducible show Below _ _ _ _); k_asm)); (try any_goals ((with_reducible show Fr _ _ _ _); k_asm)); (try any_goals ((with_reducible show Frag.In _ _); k_asm)); (try any_goals ((with_reducible show News _ _ _ _); k_asm)); (try any_goals ((with_reducible show Top _ _ _ _ _ _); k_asm)); (try any_goals ((with_reducible show (_ : Option _) = _); k_is)); (try any_goals ((with_reducible show codeIn _ _ _ = _); k_is)); (try any_goals ((with_reducible show (_ : Nat) < _); k_room)); (try any_goals ((with_reducible show BindsTo _ _ _ _); first | exact BindsTo.of_eq rfl | exact binds_K (by k_in) rfl (by k_is) rfl rfl rfl | fail "k_enter: no rule for these arguments")))
  (k_with "k_enter" => (refine' code_def ?_ ?_ ?_ ?_ ?_ (by exact rfl) (by first | exact rfl | assumption) (by first | exact rfl | assumption) ?_ ?_ ?_ ?_ ?_ ?_ ?_ ?_ ?_ ?_; k_extra "ment"; (try any_goals ((with_reducible show (_ : Bool) = _); exact rfl)); (try any_goals ((with_reducible show (_ : ScopeKind) = _); exact rfl)); (any_goals exact locs rfl); (any_goals ((with_reducible show ∀ x ∈ Scope.names _, _); decide)); k_extra "mok"; k_whole; intro _ _ _ _ _ _ Bz9 _ _; (try dsimp only); (try k_lift Bz9); (try k_fold)))
  (k_with "k_enter" => (refine' code_defC ?_ ?_ ?_ ?_ ?_ (by exact rfl) (by first | exact rfl | assumption) (by first | exact rfl | assumption) ?_ ?_ ?_ ?_ ?_ ?_ ?_ ?_ ?_ ?_; k_extra "ment"; (try any_goals ((with_reducible show (_ : Bool) = _); exact rfl)); (try any_goals ((with_reducible show (_ : ScopeKind) = _); exact rfl)); (any_goals ((with_reducible show List.Nodup _); decide +kernel)); k_extra "mok"; k_whole; intro _ _ _ _ _ _ _ Nz9 Yz9 Bz9 _ _ lz9; (try k_lt lz9); k_cells Yz9; (try simp only [List.cons_append, List.nil_append] at Nz9); (try dsimp only); (try k_lift Bz9); (try k_fold)))
  (k_with "k_enter" => ((with_reducible refine' Mine.gAt 138 ?_); refine' Mine.take_specU ?_ ?_ ?_ ?_ ?_ ?_ ?_ ?_ ?_ ?_ ?_ ?_ ?_ ?_; k_extra "mc"; intro _ _ _ _ _ _ _ _ _ _ _ _; k_extra "me"))
  (k_with "call builtin:len" => (k_here; (with_reducible show wpAny _ _ (call (Value.builtin "len") [Value.ref _]) _ _ _); k_dflt (first | (refine Mine.len_led (by k_asm) (by k_mem) (by (simp only [List.size_toArray]; omega)) ?_; k_whole; (try simp only [List.size_toArray])) | (refine Mine.lent_led (by k_asm) (by k_mem) (by (simp only [List.size_toArray]; omega)) ?_; k_whole; (try simp only [List.size_toArray])))))
  (k_with "subscriptTail" => (k_here; (with_reducible show wpAny _ _ (subscriptTail _ _ (Value.ref _) (Value.int _ _)) _ _ _); k_dflt (first | (refine Mine.item_led (by k_asm) (by k_mem) (by omega) (by with_reducible assumption) (by omega) ?_; k_whole) | (refine Mine.itemt_led (by k_asm) (by k_mem) (by omega) (by with_reducible assumption) (by omega) ?_; k_whole))))
  (k_with "compareOp In" => (k_here; (with_reducible show wpAny _ _ (compareOp CmpOp.In (Value.str _ _) (Value.ref _)) _ _ _); k_dflt (refine Mine.in_strs (by k_asm) (by k_mem) (by with_reducible assumption) ?_; k_whole)))
  (k_with "call builtin:list.index" => (k_here; (with_reducible show wpAny _ _ (call (Value.builtin _) [Value.ref _, Value.str _ _]) _ _ _); k_dflt (refine Mine.index_strs (by k_asm) (by k_mem) (by with_reducible assumption) (by omega) (by first | assumption | (simp_all; done)) ?_; k_whole)))
  (k_with "call type:list" => (k_here; (with_reducible show wpAny _ _ (call (Value.type _) [Value.ref _]) _ _ _); (with_unfolding_all first | (refine list_copyK (by k_asm) (by k_asm) (by exact News.isList (by k_asm) (by k_mem)) ?_ (by (rw [sizeLine_eq]; simp only [List.size_toArray]; omega)); k_whole) | (refine list_copyKT (by k_asm) (by k_asm) (by exact News.isTup (by k_asm) (by k_mem)) ?_ (by (rw [sizeLine_eq]; simp only [List.size_toArray]; omega)); k_whole)); intro _ _ _ _ _ lz9; (try k_lt lz9); (try k_sweep)))
  (k_with "binaryOp Add ref ref" => (k_here; (with_reducible show wpAny _ _ (binaryOp _ (Value.ref _) (Value.ref _)) _ _ _); k_dflt (refine' Mine.add_led ?_ ?_ ?_ ?_ ?_ ?_; k_extra "mc"); intro _ _ _ _ lz9; (try k_lt lz9); (try k_sweep)))
  (k_with "binaryOp Add str str" => (k_here; (with_reducible show wpAny _ _ (binaryOp _ (Value.str _ _) (Value.str _ _)) _ _ _); k_dflt (refine PyProof.Rows.add_str ?_ (by with_reducible assumption)); intro _ _))
  (k_with "k_enter" => ((with_reducible refine' Mine.gAt 55 ?_); refine' Mine.symbolCount_spec ?_ ?_ ?_ ?_ ?_ ?_ ?_ ?_ ?_ ?_ ?_ ?_ ?_ ?_; k_extra "mc"; intro _ _ _ _ _; k_extra "me"))
  (k_with "k_enter" => ((with_reducible refine' Mine.gAt 62 ?_); refine' Mine.isTerminal_spec ?_ ?_ ?_ ?_ ?_ ?_ ?_ ?_ ?_ ?_ ?_ ?_; k_extra "mc"; intro _ _ _ _; k_extra "me"))
  (k_with "k_enter" => ((with_reducible refine' Mine.gAt 69 ?_); refine' Mine.isMiddle_spec ?_ ?_ ?_ ?_ ?_ ?_ ?_ ?_ ?_ ?_ ?_ ?_ ?_ ?_ ?_ ?_ ?_; k_extra "mc"; intro _ _ _ _; k_extra "me"))
  (k_with "k_enter" => ((with_reducible refine' Mine.gAt 76 ?_); refine' Mine.number_spec ?_ ?_ ?_ ?_ ?_ ?_ ?_ ?_ ?_ ?_ ?_ ?_ ?_ ?_ ?_ ?_; k_extra "mc"; intro _ _ _ _ _ _ _; k_extra "me"))
  (k_with "k_enter" => ((with_reducible refine' Mine.gAt 83 ?_); refine' Mine.rulesOf_spec ?_ ?_ ?_ ?_ ?_ ?_ ?_ ?_ ?_ ?_ ?_ ?_ ?_ ?_ ?_ ?_ ?_ ?_ ?_; k_extra "mc"; intro _ _ _ _ _ _ lz9; (try k_lt lz9); k_extra "me"))
  (k_with "k_enter" => ((with_reducible refine' Mine.gAt 90 ?_); refine' Mine.item_spec ?_ ?_ ?_ ?_ ?_ ?_ ?_ ?_ ?_ ?_ ?_ ?_ ?_ ?_ ?_ ?_; k_extra "mc"; intro _ _ _ _ _; k_extra "me"))
  (k_with "k_enter" => ((with_reducible refine' Mine.gAt 97 ?_); refine' Mine.ruleOf_spec ?_ ?_ ?_ ?_ ?_ ?_ ?_ ?_ ?_ ?_ ?_ ?_ ?_ ?_ ?_ ?_; k_extra "mc"; intro _ _ _ _ _; k_extra "me"))
  (k_with "k_enter" => ((with_reducible refine' Mine.gAt 104 ?_); refine' Mine.dotOf_spec ?_ ?_ ?_ ?_ ?_ ?_ ?_ ?_ ?_ ?_ ?_ ?_ ?_ ?_ ?_ ?_ ?_ ?_ ?_ ?_; k_extra "mc"; intro _ _ _ _ _; k_extra "me"))
  (k_with "k_enter" => ((with_reducible refine' Mine.gAt 111 ?_); refine' Mine.after_spec ?_ ?_ ?_ ?_ ?_ ?_ ?_ ?_ ?_ ?_ ?_ ?_ ?_ ?_ ?_ ?_ ?_ ?_ ?_ ?_ ?_ ?_ ?_ ?_ ?_ ?_ ?_ ?_ ?_; k_extra "mc"; intro _ _ _ _ _ _ _; k_extra "me"))
  (k_with "k_enter" => ((with_reducible refine' Mine.gAt 143 ?_); refine' Mine.lawShown_spec ?_ ?_ ?_ ?_ ?_ ?_ ?_ ?_ ?_ ?_ ?_ ?_ ?_ ?_ ?_ ?_ ?_ ?_ ?_; k_extra "mc"; intro _ _ _ _ _; k_extra "me"))
  (k_with "k_enter" => ((with_reducible refine' Mine.g3 ?_); refine' Mine.showRule_spec ?_ ?_ ?_ ?_ ?_ ?_ ?_ ?_ ?_ ?_ ?_ ?_ ?_ ?_ ?_ ?_ ?_ ?_ ?_ ?_ ?_ ?_ ?_ ?_ ?_ ?_ ?_ ?_; k_extra "mc"; intro _ _ _ _ _; k_extra "me"))
  (k_with "k_enter" => ((with_reducible refine' Mine.g2 ?_); refine' Mine.showRule0_spec ?_ ?_ ?_ ?_ ?_ ?_ ?_ ?_ ?_ ?_ ?_ ?_ ?_ ?_ ?_ ?_ ?_ ?_ ?_ ?_ ?_ ?_ ?_ ?_ ?_ ?_ ?_; k_extra "mc"; intro _ _ _ _ _; k_extra "me"))
  trivial
namespace Mine
section
variable {w : World} {d u : Nat} {outer : List Env} {gs : Option (List Code)} {env : Env} {h₀ base : Heap} {L : Addr} {m : Str → Option Value}
    {mg mb : Str → Option Value} {mean : ExcName → Option Value} {A₀ : Around} {s : Shared} {R : Result → Shared → Prop} {news : List (Addr × Obj)}
    {k : Nat → Tok} {an : Addr} {cnt : Int} {rl lv : Addr} {st : Int} {bl off ow : Addr} {ic : Int} {t : Nat → Tok} {g gd : Addr}
theorem showItem_spec {i l ri : Int} {ti : Tok} {nv tv rv wv ov : List Value} {ne te re we oe : Nat} {names : List Str} {r ws os : List Int} {x xd tp : Addr} {kr tr : Nat → Tok} (B : Below A₀ base outer h₀) (F : Fr h₀ L s.heap m) (X₀ : (Mine.hd.heap_39 w.params).In h₀) (N : News h₀ L s.heap news)
    (T : Top Mine.hd.view_39 (looseW Mine.hd.view_39 [Str.ofString "show_rule"]) mean mg mb h₀) (hf : env.frame = some L) (hke : env.scope.kind = .function) (hd : d < 590) (hu : u < 4900)
    (hg : (g, instObj 114 gd) ∈ news) (hgd : (gd, dictOf (gramD w.params k an cnt rl lv st bl off ow ic t) 10) ∈ news)
    (hn : (an, listOf nv.toArray ne) ∈ news) (hns : StrsAre nv names) (hz : nv.length ≤ 1000)
    (hw0 : (ow, listOf wv.toArray we) ∈ news) (hwi : IntsAre wv ws) (hwl : ws.length ≤ 1000) (hii : 0 ≤ i ∧ i < (ws.length : Int)) (ho : (off, listOf ov.toArray oe) ∈ news) (hoi : IntsAre ov os) (hol : os.length ≤ 1000)
    (hw : 0 ≤ ws.getD i.toNat 0 ∧ ws.getD i.toNat 0 < (os.length : Int))
    (hrv : (rl, listOf rv.toArray re) ∈ news) (hrz : rv.length ≤ 1000) (hrx : rv[(ws.getD i.toNat 0).toNat]? = some (.ref x)) (hx : (x, instObj 32 xd) ∈ news) (hxd : (xd, dictOf (ruleD w.params kr ri l tp tr) 7) ∈ news)
    (ht : (tp, tupOf tv.toArray te) ∈ news) (hti : IntsAre tv r)
    (hr : ∀ x ∈ r, 0 ≤ x ∧ x < (names.length : Int)) (hrl : r.length ≤ 10) (hl : 0 ≤ l ∧ l < (names.length : Int)) (hnl : ∀ x ∈ names, x.length ≤ 20)
    (hdot : i - os.getD (ws.getD i.toNat 0).toNat 0 < 1000)
    (hR : ∀ h' tk' t', Fr h₀ L h' m → News h₀ L h' news → R (.ok (.ret (.str (shownS names l r (i - os.getD (ws.getD i.toNat 0).toNat 0)) t'))) { s with heap := h', toks := tk' }) :
    codeAny (model PySem.Challenge.rw_on0156_01.row.prog w) ⟨none, d, some (env :: outer), gs, u⟩ (.call (.ref 131) ⟨[.ref g, .int i ti], []⟩) R s := by
  revert B F X₀ T
  w_top off
  k_fill
  intro B F X₀ T
  k_enter
  k_steps
  exact hR _ _ _ (by assumption) (by assumption)
end

end Mine
namespace Mine
section
variable {prog : Program} {w : World} {A : Around} {s : Shared} {env : Env} {h₀ : Heap} {x : Str} {body : List Stmt} {Q : Flow → Shared → Prop}

/-- where a loop of the text's begins (the walk stops here) -/
def IterAt (prog : Program) (w : World) (A : Around) (h₀ : Heap) (env : Env) (x : Str) (body : List Stmt) (Q : Flow → Shared → Prop) (xv : Value) (s₁ : Shared) : Prop :=
  wpAny (model prog w) A (pyIter xv) (fun it s₂ => LoopAtV prog w A h₀ env x body Q (fun _ _ => False) it s₂) (fun _ _ => False) s₁
theorem for_mine {m : Str → Option Value} {px pos : Pos} {iter : Expr} (F : Fr h₀ env.locals s.heap m) (hx : env.kindOf x = some .local)
    (hp : (env.scope.kind == .class || (env.scope.kind == .module && env.locals != env.globals)) = false)
    (h : wpAny (model prog w) A (eval iter env) (fun xv s₁ => IterAt prog w A h₀ env x body Q xv s₁) (fun _ _ => False) s)
    (hs : ∀ x, foldedSetIterable iter env x = pure x := by intro _; rfl) :
    wpAny (model prog w) A (exec (.For (.Name x px) iter body [] pos) env) Q (fun _ _ => False) s := For_invVF F hx hp h hs PassesOwn.never

/-- a turn's end -/
def TurnEnd (h₀ : Heap) (L I : Addr) (oI : Obj) (Jn : (Str → Option Value) → List (Addr × Obj) → Prop) (s₁ : Shared) (Q : Flow → Shared → Prop) (f : Flow) (s₂ : Shared) : Prop :=
  match f with
  | .ret v => Q (.ret v) s₂
  | .brk => Q .next s₂
  | _ => ∃ h' tk m' news', s₂ = { s₁ with heap := h', toks := tk } ∧ Fr h₀ L h' m' ∧ News h₀ L h' ((I, oI) :: news') ∧ (∀ p ∈ news', p.1 ≠ I) ∧ Jn m' news'

theorem iter_rangeJ {r : Addr} {n : Nat} {b : Int} {t u v : Tok} {m₀ : Str → Option Value} {news : List (Addr × Obj)} (J : Nat → (Str → Option Value) → List (Addr × Obj) → Prop)
    (hh : A.handled = none) (hr : IsRange s.heap r 0 b 1 t u v) (hb : b = (n : Int)) (hn : n ≤ 10000)
    (F : Fr h₀ env.locals s.heap m₀) (N : News h₀ env.locals s.heap news) (hj : J 0 m₀ news)
    (turn : ∀ i tk₀ m₁ news₁ h tk I oI, i < n → J i m₁ news₁ → (∀ p ∈ news₁, p.1 ≠ I) → Fr h₀ env.locals h (fun y => if y = x then some (.int (i : Int) tk₀) else m₁ y) → News h₀ env.locals h ((I, oI) :: news₁) →
      wpAny (model prog w) A (execs body env) (TurnEnd h₀ env.locals I oI (J (i + 1)) { s with heap := h, toks := tk } Q) (fun _ _ => False) { s with heap := h, toks := tk })
    (done : ∀ m₁ news₁ h tk, J n m₁ news₁ → Fr h₀ env.locals h m₁ → News h₀ env.locals h news₁ → Q .next { s with heap := h, toks := tk }) :
    IterAt prog w A h₀ env x body Q (.ref r) s := by
  subst hb
  unfold IterAt
  have hsz : Builtin.Range.rangeSize 0 (n : Int) 1 = (n : Int) := by
    unfold Builtin.Range.rangeSize
    simp only [Int.zero_lt_one, if_true, gt_iff_lt]
    split <;> omega
  have hsm : Builtin.Range.small 0 (n : Int) 1 = true := small_one (by omega) (by omega) (by omega) (by omega)
  refine wpAny_pyIter_range hr hsm ?_
  rw [hsz]
  let J' : Nat → (Str → Option Value) → List (Addr × Obj) → Prop := J
  refine ⟨s.heap.objs.size, [s.heap.objs.size], [s.heap.objs.size], n, _, _, m₀, news, J', rfl, LCg.range_walks hh 0 n, ?_, ?_, ?_, ?_, F.push _, (fun p hp => ⟨Heap.get?_push_of_some _ (N p hp).1, (N p hp).2⟩), hj, ?_, ?_⟩
  · intro hm
    exact absurd F.ns.lt ((List.mem_singleton.mp hm) ▸ Nat.lt_irrefl _)
  · intro c hc
    rw [List.mem_singleton.mp hc]
    exact next_is_new F
  · intro p hp hI
    exact absurd (Heap.lt_size (N p hp).1) ((List.mem_singleton.mp hI) ▸ Nat.lt_irrefl _)
  · show IsRangeIter _ _ _ _ _
    simpa using Heap.get?_push_size _ rfl
  · rintro i v m₁ news₁ s₁ own ⟨hh', tk', rfl⟩ hin ⟨t₀, rfl⟩ hJ hoff hown hget hall hst F₁ N₁
    obtain ⟨oI, hst'⟩ : ∃ o, hh'.get? s.heap.objs.size = some o := ⟨_, hst⟩
    have hI0 : h₀.get? s.heap.objs.size = none := next_is_new F
    have hIo := hall _ (List.mem_singleton.mpr rfl) hI0 _ hst'
    have N₂ : News h₀ env.locals hh' ((s.heap.objs.size, oI) :: news₁) := fun p hp => by
      rcases List.mem_cons.mp hp with rfl | hp
      · exact N₁ _ (List.mem_append_left _ hIo)
      · exact N₁ _ (List.mem_append_right _ hp)
    have F₂ : Fr h₀ env.locals hh' (fun y => if y = x then some (.int (i : Int) t₀) else m₁ y) := by
      have e : (0 : Int) + (i : Int) = (i : Int) := Int.zero_add _
      rw [e] at F₁; exact F₁
    refine wpAny_mono (turn i t₀ m₁ news₁ hh' tk' _ _ hin hJ (fun p hp e => hoff p hp (List.mem_singleton.mpr e)) F₂ N₂) (fun f s₂ p => ?_) fun _ _ e => e
    have fin : (∃ h' tk m' news', s₂ = { ({ s with heap := hh', toks := tk' } : Shared) with heap := h', toks := tk } ∧ Fr h₀ env.locals h' m' ∧ News h₀ env.locals h' ((s.heap.objs.size, oI) :: news') ∧ (∀ p ∈ news', p.1 ≠ s.heap.objs.size) ∧ J (i + 1) m' news') →
        LoopStepU h₀ env.locals [s.heap.objs.size] own (J' (i + 1)) { s with heap := hh', toks := tk' } .next s₂ := by
      rintro ⟨h', tk, m', news', e, F', N', hne, hm⟩
      refine ⟨rfl, h', tk, m', news', e, F', fun p hp => ?_, fun p hp hq => hne p hp (List.mem_singleton.mp hq), hm⟩
      rcases List.mem_append.mp hp with hp | hp
      · have h1 : p.1 = s.heap.objs.size := List.mem_singleton.mp (hown p hp)
        have h2 := hget p hp
        rw [h1] at h2
        have h3 := hst'.symm.trans h2
        have h4 : p = (s.heap.objs.size, oI) := Prod.ext h1 (Option.some.inj h3).symm
        rw [h4]
        exact N' _ List.mem_cons_self
      · exact N' _ (List.mem_cons_of_mem _ hp)
    cases f with
    | ret v => exact .ret p
    | brk => exact .brk p
    | next => exact .next (fin p)
    | cont => exact .cont (fin p)
  · rintro h' tk m' news' F' N' _ hJ
    exact done m' news' h' tk hJ F' N'

theorem iter_listJ {l : Addr} {vs : List Value} {c : Nat} {m₀ : Str → Option Value} {news : List (Addr × Obj)} (J : Nat → (Str → Option Value) → List (Addr × Obj) → Prop)
    (hh : A.handled = none) (hsrc : ∀ i m nw, J i m nw → (l, listOf vs.toArray c) ∈ nw)
    (F : Fr h₀ env.locals s.heap m₀) (N : News h₀ env.locals s.heap news) (hj : J 0 m₀ news)
    (turn : ∀ i v m₁ news₁ h tk I oI, i < vs.length → vs[i]? = some v → J i m₁ news₁ → (∀ p ∈ news₁, p.1 ≠ I) → Fr h₀ env.locals h (fun y => if y = x then some v else m₁ y) → News h₀ env.locals h ((I, oI) :: news₁) →
      wpAny (model prog w) A (execs body env) (TurnEnd h₀ env.locals I oI (J (i + 1)) { s with heap := h, toks := tk } Q) (fun _ _ => False) { s with heap := h, toks := tk })
    (done : ∀ m₁ news₁ h tk, J vs.length m₁ news₁ → Fr h₀ env.locals h m₁ → News h₀ env.locals h news₁ → Q .next { s with heap := h, toks := tk }) :
    IterAt prog w A h₀ env x body Q (.ref l) s := by
  unfold IterAt
  have hm0 := hsrc _ _ _ hj
  have hls : s.heap.IsList l vs.toArray := News.isList N hm0
  have hl0 : h₀.get? l = none := (N _ hm0).2.2
  have hlt : l < s.heap.objs.size := Heap.lt_size (N _ hm0).1
  have hne : l ≠ s.heap.objs.size := Nat.ne_of_lt hlt
  refine wpAny_pyIter_list hls ?_
  have W := Walks.list (prog := prog) (w := w) hh s.heap.objs.size l hne vs.toArray
  rw [List.size_toArray] at W
  let J' : Nat → (Str → Option Value) → List (Addr × Obj) → Prop := J
  refine ⟨_, _, _, vs.length, _, _, m₀, news, J', rfl, W, ?_, ?_, ?_, ⟨⟨_, Heap.get?_push_size _ rfl, rfl, rfl⟩, hls.at fun o e => Heap.get?_push_of_some _ e⟩, F.push _, (fun p hp => ⟨Heap.get?_push_of_some _ (N p hp).1, (N p hp).2⟩), hj, ?_, ?_⟩
  · intro hm
    rcases List.mem_cons.mp hm with e | hm
    · exact absurd F.ns.lt (e ▸ Nat.lt_irrefl _)
    · exact (N _ hm0).2.1 (List.mem_singleton.mp hm).symm
  · intro b hb
    rw [List.mem_singleton.mp hb]
    exact next_is_new F
  · intro p hp hI
    exact absurd (Heap.lt_size (N p hp).1) ((List.mem_singleton.mp hI) ▸ Nat.lt_irrefl _)
  · rintro i v m₁ news₁ s₁ own ⟨hh', tk', rfl⟩ hin hP hJ hoff hown hget hall hst F₁ N₁
    have hI0 : h₀.get? s.heap.objs.size = none := next_is_new F
    obtain ⟨oI, hIg, _⟩ := id hst.1
    have hIo := hall _ List.mem_cons_self hI0 _ hIg
    have hlg := N₁ _ (List.mem_append_right _ (hsrc _ _ _ hJ))
    have N₂ : News h₀ env.locals hh' ((s.heap.objs.size, oI) :: news₁) := fun p hp => by
      rcases List.mem_cons.mp hp with rfl | hp
      · exact N₁ _ (List.mem_append_left _ hIo)
      · exact N₁ _ (List.mem_append_right _ hp)
    have hv : vs[i]? = some v := by simpa using hP
    refine wpAny_mono (turn i v m₁ news₁ hh' tk' _ _ hin hv hJ (fun p hp e => hoff p hp (List.mem_singleton.mpr e)) F₁ N₂) (fun f s₂ p => ?_) fun _ _ e => e
    have fin : (∃ h' tk m' news', s₂ = { ({ s with heap := hh', toks := tk' } : Shared) with heap := h', toks := tk } ∧ Fr h₀ env.locals h' m' ∧ News h₀ env.locals h' ((s.heap.objs.size, oI) :: news') ∧ (∀ p ∈ news', p.1 ≠ s.heap.objs.size) ∧ J (i + 1) m' news') →
        LoopStepU h₀ env.locals [s.heap.objs.size] own (J' (i + 1)) { s with heap := hh', toks := tk' } .next s₂ := by
      rintro ⟨h', tk, m', news', e, F', N', hne, hm⟩
      refine ⟨rfl, h', tk, m', news', e, F', fun p hp => ?_, fun p hp hq => hne p hp (List.mem_singleton.mp hq), hm⟩
      rcases List.mem_append.mp hp with hp | hp
      · have h2 := hget p hp
        rcases List.mem_cons.mp (hown p hp) with h1 | h1
        · rw [h1] at h2
          have h4 : p = (s.heap.objs.size, oI) := Prod.ext h1 (Option.some.inj (hIg.symm.trans h2)).symm
          rw [h4]
          exact N' _ List.mem_cons_self
        · have h1 := List.mem_singleton.mp h1
          rw [h1] at h2
          have h4 : p = (l, listOf vs.toArray c) := Prod.ext h1 (Option.some.inj (hlg.1.symm.trans h2)).symm
          rw [h4]
          exact N' _ (List.mem_cons_of_mem _ (hsrc _ _ _ hm))
      · exact N' _ (List.mem_cons_of_mem _ hp)
    cases f with
    | ret v => exact .ret p
    | brk => exact .brk p
    | next => exact .next (fin p)
    | cont => exact .cont (fin p)
  · rintro h' tk m' news' F' N' _ hJ
    exact done m' news' h' tk hJ F' N'
end

end Mine
namespace Mine
section
variable {prog : Program} {w : World} {A : Around} {E : Value → Shared → Prop} {s : Shared} {h₀ : Heap} {L : Addr} {m : Str → Option Value} {news : List (Addr × Obj)}
theorem fold_one (v : Value) : ∀ (n : Nat) (acc : Array Value), List.foldl (fun x1 x2 => x1 ++ x2) acc (List.replicate n #[v]) = acc ++ (List.replicate n v).toArray
  | 0, acc => by simp
  | n + 1, acc => by
    rw [List.replicate_succ, List.foldl_cons, fold_one v n, List.replicate_succ]
    apply Array.toList_inj.mp
    simp
theorem mul_one_led {l : Addr} {v : Value} {k : Nat} {x : Int} {u : Tok} {Q : Value → Shared → Prop} (F : Fr h₀ L s.heap m) (N : News h₀ L s.heap news) (hm : (l, listOf #[v] k) ∈ news) (h0 : 0 ≤ x) (h1 : x ≤ 1000)
    (h : ∀ D h', Fr h₀ L h' m → News h₀ L h' ((D, listOf (List.replicate x.toNat v).toArray 0) :: news) → (∀ p ∈ news, p.1 < D) → Q (.ref D) { s with heap := h' }) :
    wpAny (model prog w) A (binaryOp .Mult (.ref l) (.int x u)) Q E s := by
  refine PyProof.Rows.mul_list F N (N _ hm).1 (by omega) (by omega) ?_ fun h' F' N' => ?_
  · show 1 * x.toNat ≤ 2 ^ 24
    omega
  · have e : (#[v] : Array Value).isEmpty = false := rfl
    rw [e] at N'
    simp only [Bool.false_eq_true, if_false] at N'
    rw [fold_one] at N'
    refine h _ h' F' ?_ fun p hp => Heap.lt_size (N p hp).1
    simpa using N'
theorem extend_led {D b : Addr} {its its2 : List Value} {n n2 : Nat} {news' : List (Addr × Obj)} {Q : Value → Shared → Prop} (F : Fr h₀ L s.heap m) (N : News h₀ L s.heap news) (hb : (b, listOf its2.toArray n2) ∈ news) (hne : its2.length ≠ 0)
    (U : Upd D (listOf its.toArray n) (listOf (its ++ its2).toArray (n + 1)) news news') (hz : its.length ≤ 1000) (hz2 : its2.length ≤ 1000)
    (h : ∀ h', Fr h₀ L h' m → News h₀ L h' news' → Q .none { s with heap := h' }) : wpAny (model prog w) A (call (.builtin "list.extend") [.ref D, .ref b]) Q E s :=
  kl_extend F N hb rfl (by simpa using hne) U (by
    unfold Builtin.List.listTooLong; rw [sizeLine_eq]; simp; intro _; omega) (by rw [sizeLine_eq]; simp; omega) (by rw [sizeLine_eq]; simp; omega) h
theorem append_led {D : Addr} {its : List Value} {n : Nat} {x : Value} {news' : List (Addr × Obj)} {Q : Value → Shared → Prop} (F : Fr h₀ L s.heap m) (N : News h₀ L s.heap news)
    (U : Upd D (listOf its.toArray n) (listOf (its ++ [x]).toArray (n + 1)) news news') (hz : its.length ≤ 1000)
    (h : ∀ h', Fr h₀ L h' m → News h₀ L h' news' → Q .none { s with heap := h' }) : wpAny (model prog w) A (call (.builtin "list.append") [.ref D, x]) Q E s :=
  append_K (its := its.toArray) F N (by simpa using U) h (by rw [sizeLine_eq]; simp; omega)
theorem ints_append : ∀ {vs ws : List Value} {xs ys : List Int}, IntsAre vs xs → IntsAre ws ys → IntsAre (vs ++ ws) (xs ++ ys)
  | _, _, _, _, .nil, h => h
  | _, _, _, _, .cons y t r, h => .cons y t (ints_append r h)
theorem ints_replicate (k : Int) (t : Tok) : ∀ n, IntsAre (List.replicate n (.int k t)) (List.replicate n k)
  | 0 => .nil
  | n + 1 => .cons k t (ints_replicate k t n)
end

end Mine
theorem Mine.rows_5 : True := by
  k_with_none
  (k_with "k_mem" => first | with_reducible assumption | exact List.mem_cons_self | (refine' List.mem_cons_of_mem _ ?_; k_mem))
  (k_with "k_all" => first | with_reducible assumption | exact Mine.offL_ne _ _ | exact Mine.allLt_ne (by assumption) | exact Mine.ltAll_ne (by assumption))
  (k_with "k_ne" => (refine neN ?_; (try dsimp only); first | assumption | exact Ne.symm (by assumption) | exact Nat.ne_of_lt (by assumption) | exact Nat.ne_of_gt (by assumption)))
  (k_with "k_room" => ((try simp only [depth_under_make, depth_under_kw, depth_in1, depth_deeper, depth_caller]); (have hrl9 : recursionLimit = 1000 := by rfl); (try dsimp only); omega))
  (k_with "k_units" => ((have hcL9 := cLine_is); (try simp only [units_in1, units_deeper, Around.mark_units, units_caller]); (try dsimp only); omega))
  (k_with "mok" => (all_goals first | (fail_if_success (with_reducible show (_ : Prop))) | (with_reducible show wpAny _ _ _ _ _ _) | (fail_if_success (fail_if_success intro _))))
  (k_with "mc" => (try any_goals ((with_reducible show Fr _ _ _ _); k_asm)); (try any_goals ((with_reducible show (_ : Prop)); (fail_if_success (with_reducible show wpAny _ _ _ _ _ _)); first | k_mem | k_asm | (intro vz8 nz8; k_upd) | ((fail_if_success intro _); first | exact rfl | ((with_reducible show (_ : Nat) < _); first | k_room | k_units) | ((try rw [sizeLine_eq]); (try simp only [List.size_toArray, List.length_append, List.length_cons, List.length_nil, Array.length_toList, List.length_replicate]); omega) | exact News.isList (by k_asm) (by k_mem) | exact News.isTup (by k_asm) (by k_mem) | k_upd))); k_extra "mok")
  (k_with "me" => ((try dsimp only); (try k_sweep)))
  (k_with "ment" => (try any_goals ((with_reducible show Below _ _ _ _); k_asm)); (try any_goals ((with_reducible show Fr _ _ _ _); k_asm)); (try any_goals ((with_reducible show Frag.In _ _); k_asm)); (try any_goals ((with_reducible show News _ _ _ _); k_asm)); (try any_goals ((with_reducible show Top _ _ _ _ _ _); k_asm)); (try any_goals ((with_reducible show (_ : Option _) = _); k_is)); (try any_goals ((with_reducible show codeIn _ _ _ = _); k_is)); (try any_goals ((with_reducible show (_ : Nat) < _); k_room)); (try any_goals ((with_reducible show BindsTo _ _ _ _); first | exact BindsTo.of_eq rfl | exact binds_K (by k_in) rfl (by k_is) rfl rfl rfl | fail "k_enter: no rule for these arguments")))
  (k_with "k_enter" => (refine' code_def ?_ ?_ ?_ ?_ ?_ (by exact rfl) (by first | exact rfl | assumption) (by first | exact rfl | assumption) ?_ ?_ ?_ ?_ ?_ ?_ ?_ ?_ ?_ ?_; k_extra "ment"; (try any_goals ((with_reducible show (_ : Bool) = _); exact rfl)); (try any_goals ((with_reducible show (_ : ScopeKind) = _); exact rfl)); (any_goals exact locs rfl); (any_goals ((with_reducible show ∀ x ∈ Scope.names _, _); decide)); k_extra "mok"; k_whole; intro _ _ _ _ _ _ Bz9 _ _; (try dsimp only); (try k_lift Bz9); (try k_fold)))
  (k_with "k_enter" => (refine' code_defC ?_ ?_ ?_ ?_ ?_ (by exact rfl) (by first | exact rfl | assumption) (by first | exact rfl | assumption) ?_ ?_ ?_ ?_ ?_ ?_ ?_ ?_ ?_ ?_; k_extra "ment"; (try any_goals ((with_reducible show (_ : Bool) = _); exact rfl)); (try any_goals ((with_reducible show (_ : ScopeKind) = _); exact rfl)); (any_goals ((with_reducible show List.Nodup _); decide +kernel)); k_extra "mok"; k_whole; intro _ _ _ _ _ _ _ Nz9 Yz9 Bz9 _ _ lz9; (try k_lt lz9); k_cells Yz9; (try simp only [List.cons_append, List.nil_append] at Nz9); (try dsimp only); (try k_lift Bz9); (try k_fold)))
  (k_with "k_enter" => ((with_reducible refine' Mine.gAt 138 ?_); refine' Mine.take_specU ?_ ?_ ?_ ?_ ?_ ?_ ?_ ?_ ?_ ?_ ?_ ?_ ?_ ?_; k_extra "mc"; intro _ _ _ _ _ _ _ _ _ _ _ _; k_extra "me"))
  (k_with "call builtin:len" => (k_here; (with_reducible show wpAny _ _ (call (Value.builtin "len") [Value.ref _]) _ _ _); k_dflt (first | (refine Mine.len_led (by k_asm) (by k_mem) (by (simp only [List.size_toArray]; omega)) ?_; k_whole; (try simp only [List.size_toArray])) | (refine Mine.lent_led (by k_asm) (by k_mem) (by (simp only [List.size_toArray]; omega)) ?_; k_whole; (try simp only [List.size_toArray])))))
  (k_with "subscriptTail" => (k_here; (with_reducible show wpAny _ _ (subscriptTail _ _ (Value.ref _) (Value.int _ _)) _ _ _); k_dflt (first | (refine Mine.item_led (by k_asm) (by k_mem) (by omega) (by with_reducible assumption) (by omega) ?_; k_whole) | (refine Mine.itemt_led (by k_asm) (by k_mem) (by omega) (by with_reducible assumption) (by omega) ?_; k_whole))))
  (k_with "compareOp In" => (k_here; (with_reducible show wpAny _ _ (compareOp CmpOp.In (Value.str _ _) (Value.ref _)) _ _ _); k_dflt (refine Mine.in_strs (by k_asm) (by k_mem) (by with_reducible assumption) ?_; k_whole)))
  (k_with "call builtin:list.index" => (k_here; (with_reducible show wpAny _ _ (call (Value.builtin _) [Value.ref _, Value.str _ _]) _ _ _); k_dflt (refine Mine.index_strs (by k_asm) (by k_mem) (by with_reducible assumption) (by omega) (by first | assumption | (simp_all; done)) ?_; k_whole)))
  (k_with "call type:list" => (k_here; (with_reducible show wpAny _ _ (call (Value.type _) [Value.ref _]) _ _ _); (with_unfolding_all first | (refine list_copyK (by k_asm) (by k_asm) (by exact News.isList (by k_asm) (by k_mem)) ?_ (by (rw [sizeLine_eq]; simp only [List.size_toArray]; omega)); k_whole) | (refine list_copyKT (by k_asm) (by k_asm) (by exact News.isTup (by k_asm) (by k_mem)) ?_ (by (rw [sizeLine_eq]; simp only [List.size_toArray]; omega)); k_whole)); intro _ _ _ _ _ lz9; (try k_lt lz9); (try k_sweep)))
  (k_with "binaryOp Add ref ref" => (k_here; (with_reducible show wpAny _ _ (binaryOp _ (Value.ref _) (Value.ref _)) _ _ _); k_dflt (refine' Mine.add_led ?_ ?_ ?_ ?_ ?_ ?_; k_extra "mc"); intro _ _ _ _ lz9; (try k_lt lz9); (try k_sweep)))
  (k_with "binaryOp Add str str" => (k_here; (with_reducible show wpAny _ _ (binaryOp _ (Value.str _ _) (Value.str _ _)) _ _ _); k_dflt (refine PyProof.Rows.add_str ?_ (by with_reducible assumption)); intro _ _))
  (k_with "k_enter" => ((with_reducible refine' Mine.gAt 55 ?_); refine' Mine.symbolCount_spec ?_ ?_ ?_ ?_ ?_ ?_ ?_ ?_ ?_ ?_ ?_ ?_ ?_ ?_; k_extra "mc"; intro _ _ _ _ _; k_extra "me"))
  (k_with "k_enter" => ((with_reducible refine' Mine.gAt 62 ?_); refine' Mine.isTerminal_spec ?_ ?_ ?_ ?_ ?_ ?_ ?_ ?_ ?_ ?_ ?_ ?_; k_extra "mc"; intro _ _ _ _; k_extra "me"))
  (k_with "k_enter" => ((with_reducible refine' Mine.gAt 69 ?_); refine' Mine.isMiddle_spec ?_ ?_ ?_ ?_ ?_ ?_ ?_ ?_ ?_ ?_ ?_ ?_ ?_ ?_ ?_ ?_ ?_; k_extra "mc"; intro _ _ _ _; k_extra "me"))
  (k_with "k_enter" => ((with_reducible refine' Mine.gAt 76 ?_); refine' Mine.number_spec ?_ ?_ ?_ ?_ ?_ ?_ ?_ ?_ ?_ ?_ ?_ ?_ ?_ ?_ ?_ ?_; k_extra "mc"; intro _ _ _ _ _ _ _; k_extra "me"))
  (k_with "k_enter" => ((with_reducible refine' Mine.gAt 83 ?_); refine' Mine.rulesOf_spec ?_ ?_ ?_ ?_ ?_ ?_ ?_ ?_ ?_ ?_ ?_ ?_ ?_ ?_ ?_ ?_ ?_ ?_ ?_; k_extra "mc"; intro _ _ _ _ _ _ lz9; (try k_lt lz9); k_extra "me"))
  (k_with "k_enter" => ((with_reducible refine' Mine.gAt 90 ?_); refine' Mine.item_spec ?_ ?_ ?_ ?_ ?_ ?_ ?_ ?_ ?_ ?_ ?_ ?_ ?_ ?_ ?_ ?_; k_extra "mc"; intro _ _ _ _ _; k_extra "me"))
  (k_with "k_enter" => ((with_reducible refine' Mine.gAt 97 ?_); refine' Mine.ruleOf_spec ?_ ?_ ?_ ?_ ?_ ?_ ?_ ?_ ?_ ?_ ?_ ?_ ?_ ?_ ?_ ?_; k_extra "mc"; intro _ _ _ _ _; k_extra "me"))
  (k_with "k_enter" => ((with_reducible refine' Mine.gAt 104 ?_); refine' Mine.dotOf_spec ?_ ?_ ?_ ?_ ?_ ?_ ?_ ?_ ?_ ?_ ?_ ?_ ?_ ?_ ?_ ?_ ?_ ?_ ?_ ?_; k_extra "mc"; intro _ _ _ _ _; k_extra "me"))
  (k_with "k_enter" => ((with_reducible refine' Mine.gAt 111 ?_); refine' Mine.after_spec ?_ ?_ ?_ ?_ ?_ ?_ ?_ ?_ ?_ ?_ ?_ ?_ ?_ ?_ ?_ ?_ ?_ ?_ ?_ ?_ ?_ ?_ ?_ ?_ ?_ ?_ ?_ ?_ ?_; k_extra "mc"; intro _ _ _ _ _ _ _; k_extra "me"))
  (k_with "k_enter" => ((with_reducible refine' Mine.gAt 143 ?_); refine' Mine.lawShown_spec ?_ ?_ ?_ ?_ ?_ ?_ ?_ ?_ ?_ ?_ ?_ ?_ ?_ ?_ ?_ ?_ ?_ ?_ ?_; k_extra "mc"; intro _ _ _ _ _; k_extra "me"))
  (k_with "k_enter" => ((with_reducible refine' Mine.g3 ?_); refine' Mine.showRule_spec ?_ ?_ ?_ ?_ ?_ ?_ ?_ ?_ ?_ ?_ ?_ ?_ ?_ ?_ ?_ ?_ ?_ ?_ ?_ ?_ ?_ ?_ ?_ ?_ ?_ ?_ ?_ ?_; k_extra "mc"; intro _ _ _ _ _; k_extra "me"))
  (k_with "k_enter" => ((with_reducible refine' Mine.g2 ?_); refine' Mine.showRule0_spec ?_ ?_ ?_ ?_ ?_ ?_ ?_ ?_ ?_ ?_ ?_ ?_ ?_ ?_ ?_ ?_ ?_ ?_ ?_ ?_ ?_ ?_ ?_ ?_ ?_ ?_ ?_; k_extra "mc"; intro _ _ _ _ _; k_extra "me"))
  (k_with "k_enter" => ((with_reducible refine' Mine.gAt 131 ?_); refine' Mine.showItem_spec ?_ ?_ ?_ ?_ ?_ ?_ ?_ ?_ ?_ ?_ ?_ ?_ ?_ ?_ ?_ ?_ ?_ ?_ ?_ ?_ ?_ ?_ ?_ ?_ ?_ ?_ ?_ ?_ ?_ ?_ ?_ ?_ ?_ ?_ ?_; k_extra "mc"; intro _ _ _ _ _; k_extra "me"))
  (k_with "exec For Name Attribute cons nil" => (k_here; (with_unfolding_all refine Mine.for_mine (by k_asm) (by exact rfl) (by exact rfl) ?_; k_whole)))
  (k_with "exec For Name Call cons nil" => (k_here; (with_unfolding_all refine Mine.for_mine (by k_asm) (by exact rfl) (by exact rfl) ?_; k_whole)))
  (k_with "call type:range" => (k_here; (with_reducible show wpAny _ _ (call _ [Value.int _ _]) _ _ _); k_dflt (refine range1_rows (by k_asm) (by k_asm) ?_); intro _ _ _ _ _ _ _ _ _; (try k_sweep)))
  (k_with "call builtin:list.append" => (k_here; (with_reducible show wpAny _ _ (call (Value.builtin _) [Value.ref _, _]) _ _ _); k_dflt (refine Mine.append_led (by k_asm) (by k_asm) (by k_upd) (by omega) ?_); intro _ _ _; (try k_sweep)))
  (k_with "call builtin:list.extend" => (k_here; (with_reducible show wpAny _ _ (call (Value.builtin _) [Value.ref _, Value.ref _]) _ _ _); k_dflt (refine Mine.extend_led (by k_asm) (by k_asm) (by k_mem) (by ((try simp only [List.length_replicate]); omega)) (by k_upd) (by omega) (by ((try simp only [List.length_replicate]); omega)) ?_); intro _ _ _; (try k_sweep)))
  (k_with "binaryOp Mult ref int" => (k_here; k_dflt (refine Mine.mul_one_led (by k_asm) (by k_asm) (by k_mem) (by omega) (by omega) ?_); intro _ _ _ _ lz9; (try k_lt lz9); (try k_sweep)))
  (k_with "call type:tuple" => (k_here; (with_reducible show wpAny _ _ (call (Value.type _) [Value.ref _]) _ _ _); k_dflt (refine kde_tupleOf (by k_asm) (by k_asm) (by exact News.isList (by k_asm) (by k_mem)) (by ((try simp only [List.size_toArray]); omega)) (by rfl) ?_; k_whole); intro _ _ _ _ lz9; (try k_lt lz9); (try k_sweep)))
  (k_with "eval ListComp" => (k_here; k_dflt (refine Mine.listcomp_mine (by k_asm) (by rfl) (by decide) (by rfl) (by decide) (by rfl) ?_)))
  trivial
namespace Mine
/-- what the rules' families say of the ledger -/
def RulesIn (P : Params) (news : List (Addr × Obj)) (rv : List Value) (ps : List (Int × List Int)) : Prop :=
  ∀ i l r, ps[i]? = some (l, r) → ∃ x xd tp kr tr tv te, rv[i]? = some (.ref x) ∧ (x, instObj 32 xd) ∈ news ∧ (xd, dictOf (ruleD P kr (i : Nat) l tp tr) 7) ∈ news ∧ (tp, tupOf (List.toArray tv) te) ∈ news ∧ IntsAre tv r
/-- the numbers that the Grammar reckons -/
def lenAt (ps : List (Int × List Int)) (i : Nat) : Nat := (ps.getD i (0, [])).2.length + 1
def offAt (ps : List (Int × List Int)) (i : Nat) : Nat := ((List.range i).map (lenAt ps)).sum
def offsN (ps : List (Int × List Int)) (n : Nat) : List Int := (List.range n).map fun i => (offAt ps i : Int)
def ownsN (ps : List (Int × List Int)) (n : Nat) : List Int := (List.range n).flatMap fun i => List.replicate (lenAt ps i) (i : Int)
def rulesN (ps : List (Int × List Int)) (n : Nat) (j : Int) : List Int := ((List.range n).filter fun i => decide ((ps.getD i (0, [])).1 = j)).map fun i : Nat => (i : Int)
theorem offsN_succ (ps : List (Int × List Int)) (n : Nat) : offsN ps (n + 1) = offsN ps n ++ [(offAt ps n : Int)] := by
  unfold offsN; rw [List.range_succ, List.map_append]; rfl
theorem ownsN_succ (ps : List (Int × List Int)) (n : Nat) : ownsN ps (n + 1) = ownsN ps n ++ List.replicate (lenAt ps n) (n : Int) := by
  unfold ownsN; rw [List.range_succ, List.flatMap_append]; simp
theorem offAt_succ (ps : List (Int × List Int)) (n : Nat) : offAt ps (n + 1) = offAt ps n + lenAt ps n := by
  unfold offAt; rw [List.range_succ, List.map_append, List.sum_append]; simp
theorem ownsN_len (ps : List (Int × List Int)) : ∀ n, (ownsN ps n).length = offAt ps n
  | 0 => rfl
  | n + 1 => by rw [ownsN_succ, List.length_append, ownsN_len ps n, List.length_replicate, offAt_succ]
theorem rulesN_succ (ps : List (Int × List Int)) (n : Nat) (j : Int) : rulesN ps (n + 1) j = rulesN ps n j ++ if (ps.getD n (0, [])).1 = j then [(n : Int)] else [] := by
  unfold rulesN; rw [List.range_succ, List.filter_append, List.map_append]
  congr 1
  by_cases h : (ps.getD n (0, [])).1 = j
  · rw [if_pos h, List.filter_cons, if_pos (decide_eq_true h)]; rfl
  · rw [if_neg h, List.filter_cons, if_neg (by simpa using h)]; rfl
theorem rulesN_le (ps : List (Int × List Int)) (n : Nat) (j : Int) : (rulesN ps n j).length ≤ n := by
  unfold rulesN
  rw [List.length_map]
  exact Nat.le_trans (List.length_filter_le _ _) (by rw [List.length_range]; exact Nat.le_refl _)
theorem offsN_len (ps : List (Int × List Int)) (n : Nat) : (offsN ps n).length = n := by unfold offsN; rw [List.length_map, List.length_range]
theorem lenAt_le {ps : List (Int × List Int)} (h : ∀ q ∈ ps, q.2.length ≤ 10) (i : Nat) : lenAt ps i ≤ 11 := by
  unfold lenAt
  rcases Nat.lt_or_ge i ps.length with h1 | h1
  · have : ps.getD i (0, []) ∈ ps := by simp [h1]
    have := h _ this
    omega
  · simp [h1]
theorem ownsN_le {ps : List (Int × List Int)} (h : ∀ q ∈ ps, q.2.length ≤ 10) : ∀ n, (ownsN ps n).length ≤ 11 * n
  | 0 => Nat.le_refl _
  | n + 1 => by
    have h1 := ownsN_le h n
    have h2 := lenAt_le h n
    rw [ownsN_succ, List.length_append, List.length_replicate]; omega
theorem news_front3 {h₀ h : Heap} {L a b c : Addr} {oa ob oc : Obj} {nw : List (Addr × Obj)} (N : News h₀ L h nw) (h1 : (a, oa) ∈ nw) (h2 : (b, ob) ∈ nw) (h3 : (c, oc) ∈ nw) :
    News h₀ L h ((a, oa) :: (b, ob) :: (c, oc) :: offL c (offL b (offL a nw))) := fun q hq => by
  rcases List.mem_cons.mp hq with rfl | hq
  · exact N _ h1
  rcases List.mem_cons.mp hq with rfl | hq
  · exact N _ h2
  rcases List.mem_cons.mp hq with rfl | hq
  · exact N _ h3
  exact N _ (offL_sub q (offL_sub q (offL_sub q hq)))
theorem off3_mem {a b c d : Addr} {o : Obj} {nw : List (Addr × Obj)} (h : (d, o) ∈ nw) (ha : d ≠ a) (hb : d ≠ b) (hc : d ≠ c) : (d, o) ∈ offL c (offL b (offL a nw)) := offL_mem (offL_mem (offL_mem h ha) hb) hc
/-- what holds between two turns of the loop of __init__ -/
def InitJ (fix : List (Addr × Obj)) (x off ow : Addr) (ys : List Value) (ps : List (Int × List Int)) (i : Nat) (m : Str → Option Value) (nw : List (Addr × Obj)) : Prop :=
  m (Str.ofString "self") = some (Value.ref x) ∧ (∀ p ∈ fix, p ∈ nw) ∧ (∃ ov oe, (off, listOf (List.toArray ov) oe) ∈ nw ∧ IntsAre ov (offsN ps i)) ∧ (∃ wv we, (ow, listOf (List.toArray wv) we) ∈ nw ∧ IntsAre wv (ownsN ps i)) ∧
  (∀ j : Nat, j < ys.length → ∃ b its e, ys[j]? = some (Value.ref b) ∧ (b, listOf (List.toArray its) e) ∈ nw ∧ IntsAre its (rulesN ps i (j : Int)))
theorem allLt_mem {d : Addr} {l : List (Addr × Obj)} (h : AllLt d l) : ∀ p ∈ l, p.1 < d := by
  induction l with
  | nil => intro p hp; cases hp
  | cons q r ih =>
    intro p hp
    rcases List.mem_cons.mp hp with e | hp
    · rw [e]; exact h.1
    · exact ih h.2 p hp
theorem init_end {g h' : Heap} {L I b off ow : Addr} {oI ob oo oq : Obj} {rest : List (Addr × Obj)} {Jn : (Str → Option Value) → List (Addr × Obj) → Prop} {m' : Str → Option Value} {s₁ : Shared} {Q : Flow → Shared → Prop} {tk : Nat}
    (F : Fr g L h' m') (N : News g L h' ((b, ob) :: (off, oo) :: (ow, oq) :: rest)) (hI : (I, oI) ∈ rest) (hb : b ≠ I) (ho : off ≠ I) (hw : ow ≠ I) (hJ : Jn m' ((b, ob) :: (off, oo) :: (ow, oq) :: offL I rest)) :
    TurnEnd g L I oI Jn s₁ Q .next { s₁ with heap := h', toks := tk } := by
  refine ⟨h', tk, m', _, rfl, F, news_sub N fun p hp => ?_, fun p hp => ?_, hJ⟩
  · rcases List.mem_cons.mp hp with rfl | hp
    · exact List.mem_cons_of_mem _ (List.mem_cons_of_mem _ (List.mem_cons_of_mem _ hI))
    · simp only [List.mem_cons] at hp ⊢
      rcases hp with h | h | h | h
      · exact .inl h
      · exact .inr (.inl h)
      · exact .inr (.inr (.inl h))
      · exact .inr (.inr (.inr (offL_sub p h)))
  · simp only [List.mem_cons] at hp
    rcases hp with rfl | rfl | rfl | h
    · exact hb
    · exact ho
    · exact hw
    · exact offL_ne _ _ p h
/-- a Grammar stands in the ledger, all its parts with it -/
def GramIn (P : Params) (news : List (Addr × Obj)) (g an : Addr) (cnt : Int) (names : List Str) (ps : List (Int × List Int)) : Prop :=
  ∃ gd k rl lv st bl off ow t nv ne rv re ov oe wv we bv be, (g, instObj 114 gd) ∈ news ∧ (gd, dictOf (gramD P k an cnt rl lv st bl off ow (offAt ps ps.length : Nat) t) 10) ∈ news ∧
    (an, listOf (List.toArray nv) ne) ∈ news ∧ StrsAre nv names ∧ (rl, listOf (List.toArray rv) re) ∈ news ∧ rv.length = ps.length ∧ RulesIn P news rv ps ∧
    (off, listOf (List.toArray ov) oe) ∈ news ∧ IntsAre ov (offsN ps ps.length) ∧ (ow, listOf (List.toArray wv) we) ∈ news ∧ IntsAre wv (ownsN ps ps.length) ∧
    (bl, listOf (List.toArray bv) be) ∈ news ∧ bv.length = names.length ∧ ∀ j : Nat, j < names.length → ∃ b its e, bv[j]? = some (Value.ref b) ∧ (b, listOf (List.toArray its) e) ∈ news ∧ IntsAre its (rulesN ps ps.length (j : Int))
theorem RulesIn.mono {P : Params} {news news' : List (Addr × Obj)} {rv : List Value} {ps : List (Int × List Int)} (h : RulesIn P news rv ps) (hs : ∀ p ∈ news, p ∈ news') : RulesIn P news' rv ps := by
  intro i l r e
  obtain ⟨x, xd, tp, kr, tr, tv, te, h1, h2, h3, h4, h5⟩ := h i l r e
  exact ⟨x, xd, tp, kr, tr, tv, te, h1, hs _ h2, hs _ h3, hs _ h4, h5⟩
theorem map_known {m : Str → Option Value} {x : Str} {v : Value} (h : m x = some v) : m = fun y => if y = x then some v else m y := by
  funext y
  by_cases e : y = x
  · simp [e, h]
  · simp [e]

/-- after six stores, after nine -/
abbrev gramD6 (P : Params) (k : Nat → Tok) (an : Addr) (cnt : Int) (rl lv : Addr) (st : Int) (t : Nat → Tok) : List DictEntry :=
  [⟨PyData.keyHash P "names", .str (Str.ofString "names") (k 0), .ref an⟩, ⟨PyData.keyHash P "terminal_count", .str (Str.ofString "terminal_count") (k 1), .int cnt (t 0)⟩,
   ⟨PyData.keyHash P "rules", .str (Str.ofString "rules") (k 2), .ref rl⟩, ⟨PyData.keyHash P "levels", .str (Str.ofString "levels") (k 3), .ref lv⟩,
   ⟨PyData.keyHash P "expect", .str (Str.ofString "expect") (k 4), .none⟩, ⟨PyData.keyHash P "start", .str (Str.ofString "start") (k 5), .int st (t 1)⟩]
abbrev gramD9 (P : Params) (k : Nat → Tok) (an : Addr) (cnt : Int) (rl lv : Addr) (st : Int) (bl off ow : Addr) (t : Nat → Tok) : List DictEntry :=
  [⟨PyData.keyHash P "names", .str (Str.ofString "names") (k 0), .ref an⟩, ⟨PyData.keyHash P "terminal_count", .str (Str.ofString "terminal_count") (k 1), .int cnt (t 0)⟩,
   ⟨PyData.keyHash P "rules", .str (Str.ofString "rules") (k 2), .ref rl⟩, ⟨PyData.keyHash P "levels", .str (Str.ofString "levels") (k 3), .ref lv⟩,
   ⟨PyData.keyHash P "expect", .str (Str.ofString "expect") (k 4), .none⟩, ⟨PyData.keyHash P "start", .str (Str.ofString "start") (k 5), .int st (t 1)⟩,
   ⟨PyData.keyHash P "by_left", .str (Str.ofString "by_left") (k 6), .ref bl⟩, ⟨PyData.keyHash P "offsets", .str (Str.ofString "offsets") (k 7), .ref off⟩,
   ⟨PyData.keyHash P "owners", .str (Str.ofString "owners") (k 8), .ref ow⟩]
/-- the inner lists of by_left, as the comprehension makes them -/
def ByIn (news fam : List (Addr × Obj)) (ys : List Value) : Prop :=
  (∀ j : Nat, j < ys.length → ∃ b, ys[j]? = some (Value.ref b) ∧ (b, listOf #[] 0) ∈ fam ∧ ∀ p ∈ news, p.1 ≠ b) ∧ (∀ (j j' : Nat) b, ys[j]? = some (Value.ref b) → ys[j']? = some (Value.ref b) → j = j')
theorem ByIn.nil {news fam : List (Addr × Obj)} : ByIn news fam [] := ⟨fun j hj => absurd hj (Nat.not_lt_zero _), fun j j' b h => by simp at h⟩
theorem ByIn.snoc {news fam : List (Addr × Obj)} {ys : List Value} {b : Addr} (h : ByIn news fam ys) (hb : ∀ p ∈ fam, p.1 ≠ b) (hn : ∀ p ∈ news, p ∈ fam) : ByIn news ((b, listOf #[] 0) :: fam) (ys ++ [Value.ref b]) := by
  obtain ⟨h1, h2⟩ := h
  have old : ∀ (j : Nat) c, (ys ++ [Value.ref b])[j]? = some (Value.ref c) → (j < ys.length ∧ ys[j]? = some (Value.ref c) ∧ c ≠ b) ∨ (j = ys.length ∧ c = b) := by
    intro j c e
    rcases Nat.lt_or_ge j ys.length with hj | hj
    · rw [List.getElem?_append_left hj] at e
      obtain ⟨b', e', hm, _⟩ := h1 j hj
      rw [e] at e'
      obtain rfl : c = b' := by injection e' with e'; injection e'
      exact .inl ⟨hj, e, fun q => hb _ hm q⟩
    · rw [List.getElem?_append_right hj] at e
      rcases Nat.eq_or_lt_of_le hj with hj' | hj'
      · rw [← hj', Nat.sub_self] at e
        have : c = b := by simp at e; exact e.symm
        exact .inr ⟨hj'.symm, this⟩
      · rw [List.getElem?_eq_none (by simp; omega)] at e; cases e
  refine ⟨fun j hj => ?_, fun j j' c e e' => ?_⟩
  · rw [List.length_append, List.length_singleton] at hj
    rcases Nat.lt_or_ge j ys.length with hj' | hj'
    · obtain ⟨b', e', hm, hx⟩ := h1 j hj'
      exact ⟨b', by rw [List.getElem?_append_left hj']; exact e', List.mem_cons_of_mem _ hm, hx⟩
    · obtain rfl : j = ys.length := by omega
      exact ⟨b, by simp, List.mem_cons_self, fun p hp => hb p (hn p hp)⟩
  · rcases old j c e with ⟨a1, a2, a3⟩ | ⟨a1, a2⟩ <;> rcases old j' c e' with ⟨b1, b2, b3⟩ | ⟨b1, b2⟩
    · exact h2 j j' c a2 b2
    · exact absurd b2 a3
    · exact absurd a2 b3
    · rw [a1, b1]
section
variable {w : World} {d u : Nat} {outer : List Env} {gs : Option (List Code)} {env : Env} {h₀ base : Heap} {L : Addr} {m : Str → Option Value}
    {mg mb : Str → Option Value} {mean : ExcName → Option Value} {A₀ : Around} {s : Shared} {R : Result → Shared → Prop} {news : List (Addr × Obj)}
theorem init_spec {x dx an rl lv : Addr} {cnt st : Int} {tc ts : Tok} {nv rv : List Value} {ne re : Nat} {names : List Str} {ps : List (Int × List Int)} (B : Below A₀ base outer h₀) (F : Fr h₀ L s.heap m) (X₀ : (Mine.hd.heap_39 w.params).In h₀)
    (N : News h₀ L s.heap ((x, instObj 114 dx) :: (dx, dictOf [] 0) :: news)) (hlt : ∀ p ∈ news, p.1 < dx) (hlt2 : dx < x)
    (T : Top Mine.hd.view_39 (looseW Mine.hd.view_39 [Str.ofString "show_rule"]) mean mg mb h₀) (hf : env.frame = some L) (hke : env.scope.kind = .function) (hd : d < 590) (hu : u < 4900)
    (hn : (an, listOf nv.toArray ne) ∈ news) (hns : StrsAre nv names) (hz : nv.length ≤ 20)
    (hr : (rl, listOf rv.toArray re) ∈ news) (hrl : rv.length = ps.length) (hrz : ps.length ≤ 10) (hru : RulesIn w.params news rv ps) (hgd : ∀ q ∈ ps, 0 ≤ q.1 ∧ q.1 < (names.length : Int) ∧ q.2.length ≤ 10)
    (hR : ∀ h' tk' nw, Fr h₀ L h' m → News h₀ L h' nw → (∀ p ∈ news, p ∈ nw) → GramIn w.params nw x an cnt names ps → R (.ok (.ret .none)) { s with heap := h', toks := tk' }) :
    codeAny (model PySem.Challenge.rw_on0156_01.row.prog w) ⟨none, d, some (env :: outer), gs, u⟩ (.call (.ref 48) ⟨[.ref x, .ref an, .int cnt tc, .ref rl, .ref lv, .none, .int st ts], []⟩) R s := by
  revert B F X₀ T
  w_top off
  k_fill
  intro B F X₀ T
  replace hlt2 := ltN hlt2
  k_enter
  refine wpAny_noRaise ?_
  k_steps
  rename News _ _ _ _ => N6'
  obtain ⟨kf, tf, N6⟩ : ∃ kf tf : Nat → Tok, News _ _ _ ((x, instObj 114 dx) :: (dx, dictOf (gramD6 w.params kf an cnt rl lv st tf) 6) :: news) := by
    refine' ⟨fun i => List.getD [_, _, _, _, _, _] i 0, fun i => List.getD [_, _] i 0, N6'⟩
  clear N6'
  unfold CompAt
  refine LCg.CompSrc.ledger (its := nv.toArray) (k := ne) rfl (by k_asm) N6 (by k_mem) (by (rw [sizeLine_eq, List.size_toArray]; omega)) ?_
  intro g0
  refine rest_ind (fun i ys nw => ∃ fam, nw = (x, instObj 114 dx) :: (dx, dictOf (gramD6 w.params kf an cnt rl lv st tf) 6) :: fam ∧ (∀ p ∈ fam, p.1 ≠ dx ∧ p.1 ≠ x) ∧ (∀ p ∈ news, p ∈ fam) ∧ ys.length = i ∧ ByIn news fam ys) ?_ ?_ _ 0 [] _ (Nat.zero_add _)
    ⟨news, rfl, fun p hp => ⟨Nat.ne_of_lt (hlt p hp), fun q => absurd (hlt p hp) (by rw [q]; exact Nat.lt_asymm hlt2)⟩, fun p hp => hp, rfl, .nil⟩
  · rintro i ys nw v I oI C oC D m₂ h' tk' E' hi ⟨fam, rfl, hf1, hf2, hyl, hf3⟩ hP hC hx F' N' off' ne'
    k_steps
    rename_i l9 h9 F9 N9 l19
    have hfn := allLt_ne l19.2.2.2.2.2
    refine LCg.CompEnd.intro F9 N9 ((x, instObj 114 dx) :: (dx, dictOf (gramD6 w.params kf an cnt rl lv st tf) 6) :: (l9, listOf #[] 0) :: fam) (fun p hp => ?_) ⟨off'.1, off'.2.1, ⟨Nat.ne_of_gt l19.1, Nat.ne_of_gt l19.2.1, Nat.ne_of_gt l19.2.2.1⟩, off'.2.2⟩
      (.inr ⟨_, List.mem_cons_of_mem _ (List.mem_cons_of_mem _ (List.mem_cons_of_mem _ (hf2 _ hn))), rfl, ne, rfl⟩) ⟨(l9, listOf #[] 0) :: fam, rfl, fun p hp => ?_, fun p hp => List.mem_cons_of_mem _ (hf2 p hp), by rw [List.length_append, hyl]; rfl, hf3.snoc hfn hf2⟩
    · simp only [List.mem_cons] at hp ⊢
      rcases hp with h | h | h | h | h | h | h <;> simp [h]
    · rcases List.mem_cons.mp hp with rfl | hp
      · exact ⟨Nat.ne_of_gt l19.2.2.2.2.1, Nat.ne_of_gt l19.2.2.2.1⟩
      · exact hf1 p hp
  · rintro ys nw ⟨fam, rfl, hf1, hf2, hyl, hf3⟩
    unfold LCg.FinE
    intro D' h' tk' F' N' o1'
    have o1n := off1_ne o1'.2.2
    have o1x := o1'.1
    have o1d := o1'.2.1
    have hfx : ∀ p ∈ fam, p.1 ≠ x := fun p hp => (hf1 p hp).2
    have hfd : ∀ p ∈ fam, p.1 ≠ dx := fun p hp => (hf1 p hp).1
    clear o1' hf1
    k_steps
    rename News _ _ _ _ => N9
    rename Fr _ _ _ _ => F9
    obtain ⟨off, ow, kf9, tf9, N9', lA, lB⟩ : ∃ (off ow : Addr) (kf9 tf9 : Nat → Tok), News _ _ _ ((ow, listOf #[] 0) :: (off, listOf #[] 0) :: (D', listOf ys.toArray ys.length) :: (x, instObj 114 dx) :: (dx, dictOf (gramD9 w.params kf9 an cnt rl lv st D' off ow tf9) 9) :: fam) ∧
        (D' < off ∧ x < off ∧ dx < off ∧ AllLt off fam) ∧ (off < ow ∧ D' < ow ∧ x < ow ∧ dx < ow ∧ AllLt ow fam) := by
      refine' ⟨_, _, fun i => List.getD [kf 0, kf 1, kf 2, kf 3, kf 4, kf 5, _, _, _] i 0, tf, N9, ?_, ?_⟩
      · assumption
      · assumption
    clear N9
    have hFn := allLt_ne lA.2.2.2
    have hWn := allLt_ne lB.2.2.2.2
    refine iter_listJ (vs := rv) (c := re) (InitJ ((D', listOf ys.toArray ys.length) :: (x, instObj 114 dx) :: (dx, dictOf (gramD9 w.params kf9 an cnt rl lv st D' off ow tf9) 9) :: news) x off ow ys ps) rfl
      (fun i m nw hJ => hJ.2.1 _ (List.mem_cons_of_mem _ (List.mem_cons_of_mem _ (List.mem_cons_of_mem _ hr)))) F9 N9' ?_ ?_ ?_
    · refine ⟨rfl, fun p hp => ?_, ⟨[], 0, by simp, .nil⟩, ⟨[], 0, by simp, .nil⟩, fun j hj => ?_⟩
      · simp only [List.mem_cons] at hp ⊢
        rcases hp with h | h | h | h
        · simp [h]
        · simp [h]
        · simp [h]
        · simp [hf2 p h]
      · obtain ⟨b, e1, e2, _⟩ := hf3.1 j hj
        exact ⟨b, [], 0, e1, by simp [e2], .nil⟩
    · rintro i v m₁ nw hh tk I oI hi hv ⟨hJ1, hJ2, ⟨ov, oe, hJ3, hJ3'⟩, ⟨wv, we, hJ4, hJ4'⟩, hJ5⟩ hI F₁ N₁
      rw [map_known hJ1] at F₁
      obtain ⟨l, r, hlr⟩ : ∃ l r, ps[i]? = some (l, r) := by
        have : i < ps.length := by omega
        exact ⟨ps[i].1, ps[i].2, by simp [this]⟩
      obtain ⟨xr, xd, tp, kr, tr, tv, te, e1, e2, e3, e4, e5⟩ := hru i l r hlr
      rw [e1] at hv
      cases hv
      obtain ⟨hl0, hl1, hr10⟩ := hgd (l, r) (List.mem_of_getElem? hlr)
      dsimp only at hl0 hl1 hr10
      have hnl := strs_len hns
      rw [List.size_toArray] at hyl
      obtain ⟨b, its, eb, b1, b2, b3⟩ := hJ5 l.toNat (by omega)
      -- the three that turn stand in front
      have hfo : ∀ p ∈ fam, p.1 < off := fun p hp => allLt_mem lA.2.2.2 p hp
      obtain ⟨b', b4, b5, b6⟩ := hf3.1 l.toNat (by omega)
      obtain rfl : b = b' := by rw [b1] at b4; injection b4 with b4; injection b4
      have hbo : b < off := hfo _ b5
      have how : off < ow := lB.1
      have hbw : b < ow := Nat.lt_trans hbo how
      have n1 := neN (Nat.ne_of_lt hbo)
      have n2 := neN (Nat.ne_of_lt hbw)
      have n3 := neN (Nat.ne_of_lt how)
      have N₂ := news_front3 N₁ (List.mem_cons_of_mem _ b2) (List.mem_cons_of_mem _ hJ3) (List.mem_cons_of_mem _ hJ4)
      have hfix : ∀ p ∈ (D', listOf ys.toArray ys.length) :: (x, instObj 114 dx) :: (dx, dictOf (gramD9 w.params kf9 an cnt rl lv st D' off ow tf9) 9) :: news, p.1 ≠ b ∧ p.1 ≠ off ∧ p.1 ≠ ow := by
        intro p hp
        rcases List.mem_cons.mp hp with rfl | hp
        · exact ⟨Ne.symm (o1n _ b5), Nat.ne_of_lt lA.1, Nat.ne_of_lt lB.2.1⟩
        rcases List.mem_cons.mp hp with rfl | hp
        · exact ⟨Ne.symm (hfx _ b5), Nat.ne_of_lt lA.2.1, Nat.ne_of_lt lB.2.2.1⟩
        rcases List.mem_cons.mp hp with rfl | hp
        · exact ⟨Ne.symm (hfd _ b5), Nat.ne_of_lt lA.2.2.1, Nat.ne_of_lt lB.2.2.2.1⟩
        · exact ⟨b6 p hp, Nat.ne_of_lt (hfo p (hf2 p hp)), Nat.ne_of_lt (Nat.lt_trans (hfo p (hf2 p hp)) how)⟩
      have hfr : ∀ p ∈ (D', listOf ys.toArray ys.length) :: (x, instObj 114 dx) :: (dx, dictOf (gramD9 w.params kf9 an cnt rl lv st D' off ow tf9) 9) :: news, p ∈ offL ow (offL off (offL b ((I, oI) :: nw))) := fun p hp =>
        off3_mem (List.mem_cons_of_mem _ (hJ2 p hp)) (hfix p hp).1 (hfix p hp).2.1 (hfix p hp).2.2
      have hIr : (I, oI) ∈ offL ow (offL off (offL b ((I, oI) :: nw))) := off3_mem List.mem_cons_self (Ne.symm (hI _ b2)) (Ne.symm (hI _ hJ3)) (Ne.symm (hI _ hJ4))
      have hrb : ∀ q ∈ offL ow (offL off (offL b ((I, oI) :: nw))), q.1 ≠ b := fun q hq => offL_ne _ _ q (offL_sub q (offL_sub q hq))
      have hro : ∀ q ∈ offL ow (offL off (offL b ((I, oI) :: nw))), q.1 ≠ off := fun q hq => offL_ne _ _ q (offL_sub q hq)
      have hrw : ∀ q ∈ offL ow (offL off (offL b ((I, oI) :: nw))), q.1 ≠ ow := offL_ne _ _
      have hbj : ∀ j' : Nat, j' < ys.length → j' ≠ l.toNat → ∃ b' its' e', ys[j']? = some (Value.ref b') ∧ (b', listOf (List.toArray its') e') ∈ offL ow (offL off (offL b ((I, oI) :: nw))) ∧ b' ≠ I ∧ IntsAre its' (rulesN ps i (j' : Int)) := by
        intro j' hj' hne
        obtain ⟨b', its', e', c1, c2, c3⟩ := hJ5 j' hj'
        obtain ⟨b'', d1, d2, _⟩ := hf3.1 j' hj'
        obtain rfl : b' = b'' := by rw [c1] at d1; injection d1 with d1; injection d1
        exact ⟨b', its', e', c1, off3_mem (List.mem_cons_of_mem _ c2) (fun q => hne (hf3.2 _ _ _ c1 (q ▸ b1))) (Nat.ne_of_lt (hfo _ d2)) (Nat.ne_of_lt (Nat.lt_trans (hfo _ d2) how)), hI _ c2, c3⟩
      generalize offL ow (offL off (offL b ((I, oI) :: nw))) = rest at N₂ hfr hIr hrb hro hrw hbj
      have m1 := hfr _ List.mem_cons_self
      have m2 := hfr _ (List.mem_cons_of_mem _ List.mem_cons_self)
      have m3 := hfr _ (List.mem_cons_of_mem _ (List.mem_cons_of_mem _ List.mem_cons_self))
      have hnr : ∀ p ∈ news, p ∈ rest := fun p hp => hfr _ (List.mem_cons_of_mem _ (List.mem_cons_of_mem _ (List.mem_cons_of_mem _ hp)))
      replace e2 := hnr _ e2
      replace e3 := hnr _ e3
      replace e4 := hnr _ e4
      clear N₁ b4 b5 b6 hfix
      have il := b3.length
      have ol := hJ3'.length
      have wl := hJ4'.length
      have rl9 := e5.length
      have z1 := rulesN_le ps i (l.toNat : Int)
      have z2 := offsN_len ps i
      have z3 := ownsN_le (ps := ps) (fun q hq => (hgd q hq).2.2) i
      have z4 : i ≤ 10 := by omega
      k_steps
      rename News _ _ _ _ => N9
      rename Fr _ _ _ _ => F9
      have hps : ps.getD i (0, []) = (l, r) := by rw [List.getD_eq_getElem?_getD, hlr]; rfl
      have hla : lenAt ps i = r.length + 1 := by unfold lenAt; rw [hps]
      have how' := ownsN_len ps i
      refine init_end F9 (news_sub N9 fun p hp => List.mem_cons_of_mem _ (List.mem_cons_of_mem _ hp)) hIr (hI _ b2) (hI _ hJ3) (hI _ hJ4) ⟨rfl, fun p hp => ?_, ⟨_, _, List.mem_cons_of_mem _ List.mem_cons_self, ?_⟩, ⟨_, _, List.mem_cons_of_mem _ (List.mem_cons_of_mem _ List.mem_cons_self), ?_⟩, fun j hj => ?_⟩
      · exact List.mem_cons_of_mem _ (List.mem_cons_of_mem _ (List.mem_cons_of_mem _ (offL_mem (hfr p hp) (hI _ (hJ2 p hp)))))
      · rw [offsN_succ, show (offAt ps i : Int) = (wv.length : Int) by omega]
        exact ints_append hJ3' (.cons _ _ .nil)
      · rw [ownsN_succ, hla, show r.length + 1 = ((tv.length : Int) + 1).toNat by omega]
        exact ints_append hJ4' (ints_replicate _ _ _)
      · by_cases hjl : j = l.toNat
        · subst hjl
          refine ⟨b, _, _, b1, List.mem_cons_self, ?_⟩
          rw [rulesN_succ, if_pos (by rw [hps]; show l = _; omega)]
          exact ints_append b3 (.cons _ _ .nil)
        · obtain ⟨b', its', e', c1, c2, c3, c4⟩ := hbj j hj hjl
          refine ⟨b', its', e', c1, List.mem_cons_of_mem _ (List.mem_cons_of_mem _ (List.mem_cons_of_mem _ (offL_mem c2 c3))), ?_⟩
          rw [rulesN_succ, if_neg (by rw [hps]; show ¬ l = _; omega), List.append_nil]
          exact c4
    · rintro m₁ nw hh tk ⟨hJ1, hJ2, ⟨ov, oe, hJ3, hJ3'⟩, ⟨wv, we, hJ4, hJ4'⟩, hJ5⟩ F₁ N₁
      rw [map_known hJ1] at F₁
      have m2 := hJ2 _ (List.mem_cons_of_mem _ List.mem_cons_self)
      have m3 := hJ2 _ (List.mem_cons_of_mem _ (List.mem_cons_of_mem _ List.mem_cons_self))
      have m4 := hJ2 _ List.mem_cons_self
      have hnl := strs_len hns
      rw [List.size_toArray] at hyl
      have xd9 : x ≠ dx := Nat.ne_of_gt hlt2
      have wd9 : ow ≠ dx := Nat.ne_of_gt lB.2.2.2.1
      have N₂ := news_front N₁ m3
      have e1 := offL_mem m2 xd9
      have e2 := offL_mem hJ4 wd9
      have wl := hJ4'.length
      have how' := ownsN_len ps rv.length
      have hlen := ownsN_le (ps := ps) (fun q hq => (hgd q hq).2.2) rv.length
      dsimp only
      k_steps
      rename News _ _ _ _ => N9
      have hfull : ∀ p ∈ news, p ∈ offL dx nw := fun p hp => by
        refine List.mem_filter.mpr ⟨hJ2 p (List.mem_cons_of_mem _ (List.mem_cons_of_mem _ (List.mem_cons_of_mem _ hp))), ?_⟩
        have := Nat.ne_of_lt (hlt p hp)
        simpa using this
      obtain ⟨kf10, tf10, N10⟩ : ∃ kf10 tf10 : Nat → Tok, News _ _ _ ((dx, dictOf (gramD w.params kf10 an cnt rl lv st D' off ow (offAt ps ps.length : Nat) tf10) 10) :: offL dx nw) := by
        rw [show (offAt ps ps.length : Int) = (wv.length : Int) by rw [← hrl]; omega]
        refine' ⟨fun i => List.getD [kf9 0, kf9 1, kf9 2, kf9 3, kf9 4, kf9 5, kf9 6, kf9 7, kf9 8, _] i 0, fun i => List.getD [tf9 0, tf9 1, _] i 0, N9⟩
      refine hR _ _ _ (by assumption) N10 (fun p hp => List.mem_cons_of_mem _ (hfull p hp)) ⟨dx, kf10, rl, lv, st, D', off, ow, tf10, nv, ne, rv, re, ov, oe, wv, we, ys, ys.length, List.mem_cons_of_mem _ e1, List.mem_cons_self, List.mem_cons_of_mem _ (hfull _ hn), hns, List.mem_cons_of_mem _ (hfull _ hr), hrl,
        hru.mono fun p hp => List.mem_cons_of_mem _ (hfull p hp), List.mem_cons_of_mem _ (offL_mem hJ3 (Nat.ne_of_gt lA.2.2.1)), hrl ▸ hJ3', List.mem_cons_of_mem _ e2, hrl ▸ hJ4', List.mem_cons_of_mem _ (offL_mem m4 (Ne.symm o1d)), by omega, fun j hj => ?_⟩
      obtain ⟨b, its, eb, b1, b2, b3⟩ := hJ5 j (by omega)
      obtain ⟨b', d1, d2, _⟩ := hf3.1 j (by omega)
      obtain rfl : b = b' := by rw [b1] at d1; injection d1 with d1; injection d1
      exact ⟨b, its, eb, b1, List.mem_cons_of_mem _ (offL_mem b2 (hfd _ d2)), hrl ▸ b3⟩
end

end Mine
namespace Mine
section
variable {prog : Program} {w : World} {A : Around} {env : Env} {s : Shared} {Q : Flow → Shared → Prop}
/-- what is left of a body (the walk stops here) -/
def RestAt (prog : Program) (w : World) (A : Around) (rest : List Stmt) (env : Env) (Q : Flow → Shared → Prop) (s' : Shared) : Prop := wpAny (model prog w) A (execs rest env) Q (fun _ _ => False) s'
/-- one statement, and what it leaves -/
theorem execs_one {st : Stmt} {rest : List Stmt} (h : wpAny (model prog w) A (exec st env) (fun f s' => f = .next ∧ RestAt prog w A rest env Q s') (fun _ _ => False) s) :
    RestAt prog w A (st :: rest) env Q s := by
  unfold RestAt
  rw [execs_cons]
  refine wpAny_bind (wpAny_mono h (fun f s' h => ?_) fun _ _ e => e)
  obtain ⟨rfl, hP⟩ := h
  exact hP
end

end Mine
namespace Mine
/-- the law's own function, as the top leaves it -/
noncomputable def lawF (P : Params) : FuncData := match (Mine.hd.heap_39 P).lookup 148 with
  | some ⟨_, _, .func fd, _⟩ => fd
  | _ => default
noncomputable def lawS (P : Params) : Scope := (lawF P).scope
noncomputable def lawB (P : Params) (k : Nat) : List Stmt := match (lawF P).body with
  | .stmts b => b.drop k
  | _ => []

end Mine
namespace Mine
/-- the names of the law's grammars -/
def namesOf (a b : Nat) : List Str := (([Str.ofString "$end", Str.ofString "error", Str.ofString "$undefined"] ++ [Str.ofString "A", Str.ofString "'+'", Str.ofString "B"].take a) ++ [Str.ofString "$accept"]) ++ [Str.ofString "s", Str.ofString "t", Str.ofString "$@1"].take b
theorem namesOf_len {a b : Nat} (ha : 1 ≤ a ∧ a ≤ 3) (hb : 1 ≤ b ∧ b ≤ 3) : (namesOf a b).length = 3 + a + 1 + b := by
  simp only [namesOf, List.length_append, List.length_take, List.length_cons, List.length_nil]
  omega
theorem names_all {P : List Str → Nat → Prop} (h : ∀ a ∈ [1, 2, 3], ∀ b ∈ [1, 2, 3], P (namesOf a b) a) {a b : Nat} (ha : 1 ≤ a ∧ a ≤ 3) (hb : 1 ≤ b ∧ b ≤ 3) : P (namesOf a b) a := by
  refine h a ?_ b ?_ <;> simp <;> omega

end Mine
namespace Mine
/-- the pairs of the law, in the ledger -/
def PairsIn (news : List (Addr × Obj)) (pv : List Value) (ps : List (Int × List Int)) : Prop :=
  pv.length = ps.length ∧ ∀ (i : Nat) l r, ps[i]? = some (l, r) → ∃ a ta tl tv e e2, pv[i]? = some (Value.ref a) ∧ (a, tupOf #[Value.int l tl, Value.ref ta] e) ∈ news ∧ (ta, tupOf (List.toArray tv) e2) ∈ news ∧ IntsAre tv r
theorem PairsIn.mono {news news' : List (Addr × Obj)} {pv : List Value} {ps : List (Int × List Int)} (h : PairsIn news pv ps) (hs : ∀ p ∈ news, p ∈ news') : PairsIn news' pv ps := by
  refine ⟨h.1, fun i l r e => ?_⟩
  obtain ⟨a, ta, tl, tv, e, e2, h1, h2, h3, h4⟩ := h.2 i l r e
  exact ⟨a, ta, tl, tv, e, e2, h1, hs _ h2, hs _ h3, h4⟩
theorem PairsIn.snoc {news : List (Addr × Obj)} {pv : List Value} {ps : List (Int × List Int)} (h : PairsIn news pv ps) {a ta : Addr} {l : Int} {tl : Tok} {tv : List Value} {e e2 : Nat} {r : List Int}
    (h1 : (a, tupOf #[Value.int l tl, Value.ref ta] e) ∈ news) (h2 : (ta, tupOf (List.toArray tv) e2) ∈ news) (h3 : IntsAre tv r) : PairsIn news (pv ++ [Value.ref a]) (ps ++ [(l, r)]) := by
  refine ⟨by rw [List.length_append, List.length_append, h.1]; rfl, fun i l' r' he => ?_⟩
  rcases Nat.lt_or_ge i ps.length with hi | hi
  · rw [List.getElem?_append_left hi] at he
    rw [List.getElem?_append_left (by rw [h.1]; exact hi)]
    exact h.2 i l' r' he
  · rw [List.getElem?_append_right hi] at he
    rcases Nat.eq_or_lt_of_le hi with hi' | hi'
    · rw [← hi', Nat.sub_self] at he
      simp at he
      obtain ⟨rfl, rfl⟩ := he
      refine ⟨a, ta, tl, tv, e, e2, ?_, h1, h2, h3⟩
      rw [List.getElem?_append_right (by rw [h.1]; omega), ← hi', h.1, Nat.sub_self]; rfl
    · rw [List.getElem?_eq_none (by simp; omega)] at he; cases he
/-- what is said of them -/
def PsOk (cnt len : Int) (ps : List (Int × List Int)) : Prop :=
  (∃ r rest, ps = (cnt, r) :: rest ∧ ∀ q ∈ rest, cnt < q.1) ∧ ∀ q ∈ ps, 0 ≤ q.1 ∧ q.1 < len ∧ q.2.length ≤ 3 ∧ ∀ x ∈ q.2, 0 ≤ x ∧ x < len
theorem PsOk.snoc {cnt len : Int} {ps : List (Int × List Int)} (h : PsOk cnt len ps) {l : Int} {r : List Int} (h0 : 0 ≤ cnt) (h1 : cnt < l) (h2 : l < len) (h3 : r.length ≤ 3) (h4 : ∀ x ∈ r, 0 ≤ x ∧ x < len) : PsOk cnt len (ps ++ [(l, r)]) := by
  obtain ⟨⟨r0, rest, e, hr⟩, ha⟩ := h
  refine ⟨⟨r0, rest ++ [(l, r)], by rw [e]; rfl, fun q hq => ?_⟩, fun q hq => ?_⟩
  · rcases List.mem_append.mp hq with hq | hq
    · exact hr q hq
    · rw [List.mem_singleton.mp hq]; exact h1
  · rcases List.mem_append.mp hq with hq | hq
    · exact ha q hq
    · rw [List.mem_singleton.mp hq]; exact ⟨by show 0 ≤ l; omega, h2, h3, h4⟩
theorem range_size (n : Nat) : Builtin.Range.rangeSize 0 (n : Int) 1 = (n : Int) := by
  unfold Builtin.Range.rangeSize
  simp only [Int.zero_lt_one, if_true, gt_iff_lt]
  split <;> omega

end Mine
namespace Mine
section
variable {prog : Program} {w : World} {A : Around} {s : Shared}
theorem turn_inner (elt iter1 iter2 t1 t2 : Expr) (scope : Scope) (pos : Pos) (it acc : Value) (env : Env) :
    compTurn (.ListComp elt [⟨t1, iter1, [], 0⟩, ⟨t2, iter2, [], 0⟩] scope pos) 1 it acc env = (standAt iter2.pos >>= fun _ => pyNext it >>= fun r => match r with
      | none => pure (.done .next)
      | some v => letOwnedTupleGo t2 it v >>= fun _ => assign t2 env v >>= fun _ =>
        (eval elt env >>= fun x => call (.builtin "list.append") [acc, x] >>= fun _ => pure ()) >>= fun _ =>
          again (.compLoop (.ListComp elt [⟨t1, iter1, [], 0⟩, ⟨t2, iter2, [], 0⟩] scope pos) 1 it acc env)) := by rfl
theorem turn_outer (elt iter1 iter2 t1 t2 : Expr) (scope : Scope) (pos : Pos) (it acc : Value) (env : Env) :
    compTurn (.ListComp elt [⟨t1, iter1, [], 0⟩, ⟨t2, iter2, [], 0⟩] scope pos) 0 it acc env = (standAt iter1.pos >>= fun _ => pyNext it >>= fun r => match r with
      | none => pure (.done .next)
      | some v => letOwnedTupleGo t1 it v >>= fun _ => assign t1 env v >>= fun _ =>
        eval iter2 env >>= fun x => standAt iter2.pos >>= fun _ => foldedSetIterable iter2 env x >>= fun x => holding [x] (pyIter x) >>= fun it2 =>
          runOwn (.compStart (.ListComp elt [⟨t1, iter1, [], 0⟩, ⟨t2, iter2, [], 0⟩] scope pos) 1 it2 acc env) env >>= fun _ =>
          again (.compLoop (.ListComp elt [⟨t1, iter1, [], 0⟩, ⟨t2, iter2, [], 0⟩] scope pos) 0 it acc env)) := by rfl

theorem inner_loop {elt iter1 iter2 t1 t2 : Expr} {scope : Scope} {pos : Pos} {it acc : Value} {env : Env} {R : Result → Shared → Prop} (I : Nat → Shared → Prop)
    (turn : ∀ n s, I n s → wpAny (model prog w) A (pyNext it) (fun r s₁ => match r with
      | none => R (.ok .next) s₁
      | some v => wpAny (model prog w) A (assign t2 env v) (fun _ s₂ => wpAny (model prog w) A (eval elt env) (fun x s₃ =>
          wpAny (model prog w) A (call (.builtin "list.append") [acc, x]) (fun _ s₄ => ∃ m, m < n ∧ I m s₄) (fun _ _ => False) s₃) (fun _ _ => False) s₂) (fun _ _ => False) s₁) (fun _ _ => False) s)
    (n : Nat) (h : I n s) (ht : ∀ v, letOwnedTupleGo t2 it v = pure ()) :
    codeAny (model prog w) A (.compLoop (.ListComp elt [⟨t1, iter1, [], 0⟩, ⟨t2, iter2, [], 0⟩] scope pos) 1 it acc env) R s := by
  refine codeAny_loop rfl I (fun n s hI => ?_) n h
  show wpAny _ A ((compTurn (.ListComp elt [⟨t1, iter1, [], 0⟩, ⟨t2, iter2, [], 0⟩] scope pos) 1 it acc env).onRaise (fun x => do noteFrame x env; theTreesLotGoes x)) _ _ s
  refine wpAny_noted (wpAny_noRaise ?_)
  rw [turn_inner]
  refine wpAny_bind (wpAny_standAt (wpAny_bind (wpAny_mono (turn n s hI) (fun r s₁ h₁ => ?_) fun _ _ h' => h')))
  cases r with
  | none => exact wpAny_pure h₁
  | some v =>
    refine wpAny_bind (wpAny_of_eq (ht v) ?_)
    exact wpAny_bind (wpAny_mono h₁ (fun _ s₂ h₂ => wpAny_bind (wpAny_bind (wpAny_mono h₂ (fun x s₃ h₃ => wpAny_bind (wpAny_mono h₃
      (fun _ s₄ h₄ => wpAny_pure (wpAny_pure ⟨rfl, h₄⟩)) fun _ _ h' => h')) fun _ _ h' => h'))) fun _ _ h' => h')

theorem outer_loop {elt iter1 iter2 t1 t2 : Expr} {scope : Scope} {pos : Pos} {it acc : Value} {env : Env} {R : Result → Shared → Prop} (hh : A.handled = none) (I : Nat → Shared → Prop)
    (turn : ∀ n s, I n s → wpAny (model prog w) A (pyNext it) (fun r s₁ => match r with
      | none => R (.ok .next) s₁
      | some v => wpAny (model prog w) A (assign t1 env v) (fun _ s₂ => wpAny (model prog w) A (eval iter2 env) (fun x s₃ => wpAny (model prog w) A (pyIter x) (fun it2 s₄ =>
          codeAny (model prog w) A (.compStart (.ListComp elt [⟨t1, iter1, [], 0⟩, ⟨t2, iter2, [], 0⟩] scope pos) 1 it2 acc env) (fun r s₅ => match r with | .ok _ => ∃ m, m < n ∧ I m s₅ | .error _ => False) s₄) (fun _ _ => False) s₃) (fun _ _ => False) s₂) (fun _ _ => False) s₁) (fun _ _ => False) s)
    (n : Nat) (h : I n s) (ht : ∀ v, letOwnedTupleGo t1 it v = pure ()) (hs : ∀ x, foldedSetIterable iter2 env x = pure x) :
    codeAny (model prog w) A (.compLoop (.ListComp elt [⟨t1, iter1, [], 0⟩, ⟨t2, iter2, [], 0⟩] scope pos) 0 it acc env) R s := by
  have hm : A.mark none = A := by cases A; simp only at hh; subst hh; rfl
  refine codeAny_loop rfl I (fun n s hI => ?_) n h
  show wpAny _ A ((compTurn (.ListComp elt [⟨t1, iter1, [], 0⟩, ⟨t2, iter2, [], 0⟩] scope pos) 0 it acc env).onRaise (fun x => do noteFrame x env; theTreesLotGoes x)) _ _ s
  refine wpAny_noted (wpAny_noRaise ?_)
  rw [turn_outer]
  refine wpAny_bind (wpAny_standAt (wpAny_bind (wpAny_mono (turn n s hI) (fun r s₁ h₁ => ?_) fun _ _ h' => h')))
  cases r with
  | none => exact wpAny_pure h₁
  | some v =>
    refine wpAny_bind (wpAny_of_eq (ht v) ?_)
    refine wpAny_bind (wpAny_mono h₁ (fun _ s₂ h₂ => wpAny_bind (wpAny_mono h₂ (fun x s₃ h₃ => wpAny_bind (wpAny_standAt (wpAny_bind (wpAny_of_eq (hs x) (wpAny_bind (wpAny_holding (wpAny_mono h₃ (fun it2 s₄ h₄ => ?_) fun _ _ h' => h')))))))
      fun _ _ h' => h')) fun _ _ h' => h')
    refine wpAny_bind (wpAny_runOwn ?_)
    rw [hm]
    refine codeAny_mono h₄ fun r s₅ hr => ?_
    cases r with
    | ok f => exact wpAny_pure ⟨rfl, hr⟩
    | error e => exact hr.elim

theorem inner_start {elt iter1 iter2 t1 t2 : Expr} {scope : Scope} {pos : Pos} {it acc : Value} {env : Env} {R : Result → Shared → Prop}
    (h0 : codeAny (model prog w) A (.compLoop (.ListComp elt [⟨t1, iter1, [], 0⟩, ⟨t2, iter2, [], 0⟩] scope pos) 1 it acc env) R s)
    (h : wpAny (model prog w) A (pyIter it) (fun it' s' => codeAny (model prog w) A (.compLoop (.ListComp elt [⟨t1, iter1, [], 0⟩, ⟨t2, iter2, [], 0⟩] scope pos) 1 it' acc env) R s') (fun _ _ => False) s) :
    codeAny (model prog w) A (.compStart (.ListComp elt [⟨t1, iter1, [], 0⟩, ⟨t2, iter2, [], 0⟩] scope pos) 1 it acc env) R s := by
  refine codeAny_of_tree ?_
  show wpAny _ _ ((compStart (.ListComp elt [⟨t1, iter1, [], 0⟩, ⟨t2, iter2, [], 0⟩] scope pos) 1 it acc env).onRaise (fun x => do noteFrame x env; standAt theWindowsPlace)) _ _ s
  refine wpAny_notedAt (wpAny_noRaise ?_)
  unfold compStart
  show wpAny _ _ (ask >>= _) _ _ s
  refine wpAny_bind (wpAny_askSetting (wpAny_ite ?_))
  split
  · first
      | exact wpAny_bind (wpAny_pure (wpAny_pure (And.intro rfl h0)))
      | exact wpAny_pure (And.intro rfl h0)
  · first
      | exact wpAny_bind (wpAny_rule (wpAny_bind (wpAny_standAt (wpAny_bind (wpAny_mono h (fun it' s' h' => wpAny_pure (And.intro rfl h')) fun _ _ x => x)))))
      | (refine wpAny_bind (wpAny_rule ?_); show wpAny _ _ (standAt iter2.pos >>= _) _ _ s; exact wpAny_bind (wpAny_standAt (wpAny_bind (wpAny_mono h (fun it' s' h' => wpAny_pure (And.intro rfl h')) fun _ _ x => x))))

def OffAll (I2 I1 C D : Addr) (nw : List (Addr × Obj)) : Prop := ∀ p ∈ nw, p.1 ≠ I2 ∧ p.1 ≠ I1 ∧ p.1 ≠ C ∧ p.1 ≠ D

theorem inner_ranges {elt iter1 iter2 : Expr} {x1 x2 : Str} {p1 p2 : Pos} {scope : Scope} {cl : List (Str × Addr)} {pos : Pos} {env : Env} {h₀ : Heap} {L : Addr} {m m₀ : Str → Option Value} {R : Result → Shared → Prop}
    (hh : A.handled = none) {I1 I2 C D : Addr} {oI1 : Obj} {k : Nat} {v1 : Value} (hx2 : scope.names.lookup x2 = some .local) (hkind : scope.kind = .function) (hne : x1 ≠ x2) (hk : k ≤ 1000)
    (Inv : Nat → List Value → List (Addr × Obj) → Prop) (hlen : ∀ j ys nw, Inv j ys nw → ys.length ≤ 10000)
    (e1 : I1 ≠ I2) (e2 : I1 ≠ C) (e3 : I1 ≠ D) (e4 : I2 ≠ C) (e5 : I2 ≠ D) (e6 : C ≠ D) (hL1 : L ≠ I1) (hL2 : L ≠ I2) (hL3 : L ≠ C) (hL4 : L ≠ D)
    (z1 : h₀.get? I1 = none) (z2 : h₀.get? I2 = none) (z3 : h₀.get? C = none) (z4 : h₀.get? D = none)
    (helt : ∀ j ys nw oI2 oC m₂ h tk t2, j < k → Inv j ys nw → LCg.NsObj oC m₂ → m₂ x1 = some v1 → m₂ x2 = some (.int (j : Int) t2) → Fr h₀ L h m → News h₀ L h ((I2, oI2) :: (I1, oI1) :: (C, oC) :: (D, LCg.lst ys) :: nw) → OffAll I2 I1 C D nw →
      wpAny (model prog w) A (eval elt (compEnvC scope cl C env)) (fun y s' => ∃ h' tk' nw', s' = { s with heap := h', toks := tk' } ∧ Fr h₀ L h' m ∧ News h₀ L h' ((I2, oI2) :: (I1, oI1) :: (C, oC) :: (D, LCg.lst ys) :: nw') ∧ OffAll I2 I1 C D nw' ∧ Inv (j + 1) (ys ++ [y]) nw') (fun _ _ => False) { s with heap := h, toks := tk })
    {ys0 : List Value} {nw0 : List (Addr × Obj)} (hit : IsRangeIter s.heap I2 0 (k : Int) 1) (F : Fr h₀ L s.heap m) (hn : s.heap.Ns C m₀) (hm : m₀ x1 = some v1) (N : News h₀ L s.heap ((I1, oI1) :: (D, LCg.lst ys0) :: nw0)) (off : OffAll I2 I1 C D nw0) (h0 : Inv 0 ys0 nw0)
    (done : ∀ h' tk' ys nw m₂, Fr h₀ L h' m → h'.Ns C m₂ → News h₀ L h' ((I1, oI1) :: (D, LCg.lst ys) :: nw) → OffAll I2 I1 C D nw → Inv k ys nw → R (.ok .next) { s with heap := h', toks := tk' }) :
    codeAny (model prog w) A (.compLoop (.ListComp elt [⟨.Name x1 p1, iter1, [], 0⟩, ⟨.Name x2 p2, iter2, [], 0⟩] scope pos) 1 (.ref I2) (.ref D) (compEnvC scope cl C env)) R s := by
  have W := LCg.range_walks (prog := prog) (w := w) (I := I2) hh 0 k
  refine inner_loop (fun n s' => ∃ h' tk j ys nw m₂, s' = { s with heap := h', toks := tk } ∧ j ≤ k ∧ n = k + 1 - j ∧ IsRangeIter h' I2 (0 + (j : Nat) * 1) ((k : Int) - (j : Nat)) 1 ∧ Fr h₀ L h' m ∧ h'.Ns C m₂ ∧ m₂ x1 = some v1 ∧
    News h₀ L h' ((I1, oI1) :: (D, LCg.lst ys) :: nw) ∧ OffAll I2 I1 C D nw ∧ Inv j ys nw) ?_ (k + 1) ⟨s.heap, s.toks, 0, ys0, nw0, m₀, rfl, Nat.zero_le _, rfl, by simpa using hit, F, hn, hm, N, off, h0⟩ (by intro _; rfl)
  rintro n s' ⟨h', tk, j, ys, nw, m₂, rfl, hj, rfl, hst, F', hn', hm', N', off', hI⟩
  by_cases hlt : j < k
  · refine W.item j _ _ _ hlt hst fun v h₂ tk₂ hPv hst₂ hk₂ => ?_
    obtain ⟨t2, rfl⟩ := hPv
    refine wpAny_assign_Name (wpAny_storeName_local (lookup_relabel_local hx2) (hn'.at' fun o e => hk₂ _ o (by simpa using Ne.symm e4) e) (fun h₃ hn₃ hs₃ => ?_) (by simp [compEnvC, relabel, hkind]))
    have hst₃ := W.frame _ _ _ hst₂ fun b hb o e => hs₃.extBut b o (fun q => e4 (by rw [← List.mem_singleton.mp hb]; exact q)) e
    have hst₃' : h₃.get? I2 = some _ := hst₃
    obtain ⟨oC, heC, hoC⟩ := LCg.ns_obj hn₃
    have F₂ : Fr h₀ L h₂ m := LCg.fr_but F' hk₂ hL2 z2
    have F₃ : Fr h₀ L h₃ m := F₂.change hs₃ (Ne.symm hL3) z3
    have N₂ : News h₀ L h₂ ((I1, oI1) :: (D, LCg.lst ys) :: nw) := LCg.news_but N' hk₂ fun p hp => by
      rcases List.mem_cons.mp hp with rfl | hp
      · exact e1
      rcases List.mem_cons.mp hp with rfl | hp
      · exact Ne.symm e5
      · exact (off' p hp).1
    have N₃ : News h₀ L h₃ ((I2, _) :: (I1, oI1) :: (C, oC) :: (D, LCg.lst ys) :: nw) := fun p hp => by
      rcases List.mem_cons.mp hp with rfl | hp
      · exact ⟨hst₃', Ne.symm hL2, z2⟩
      rcases List.mem_cons.mp hp with rfl | hp
      · have z := N₂ _ List.mem_cons_self
        exact ⟨hs₃.extBut _ _ e2 z.1, z.2⟩
      rcases List.mem_cons.mp hp with rfl | hp
      · exact ⟨heC, Ne.symm hL3, z3⟩
      rcases List.mem_cons.mp hp with rfl | hp
      · have z := N₂ _ (List.mem_cons_of_mem _ List.mem_cons_self)
        exact ⟨hs₃.extBut _ _ (Ne.symm e6) z.1, z.2⟩
      · have z := N₂ p (List.mem_cons_of_mem _ (List.mem_cons_of_mem _ hp))
        exact ⟨hs₃.extBut _ _ (off' p hp).2.2.1 z.1, z.2⟩
    have hxx : (0 : Int) + (j : Int) = (j : Int) := Int.zero_add _
    refine wpAny_mono (helt j ys nw _ oC _ h₃ _ t2 hlt hI hoC (by simp [hne, hm']) (by simp [hxx]) F₃ N₃ off') (fun y s₄ q => ?_) fun _ _ e => e
    obtain ⟨h₄, tk₄, nw₄, rfl, F₄, N₄, off₄, hI₄⟩ := q
    have y2 := (N₄ _ List.mem_cons_self).1
    have yC := (N₄ _ (List.mem_cons_of_mem _ (List.mem_cons_of_mem _ List.mem_cons_self))).1
    have yD := (N₄ _ (List.mem_cons_of_mem _ (List.mem_cons_of_mem _ (List.mem_cons_of_mem _ List.mem_cons_self)))).1
    refine append_at (hsz := by show ys.toArray.size ≤ sizeLine; rw [List.size_toArray, sizeLine_eq]; have := hlen _ _ _ hI; omega) yD fun h₅ hs₅ hD₅ => ?_
    refine ⟨k + 1 - (j + 1), by omega, h₅, tk₄, j + 1, ys ++ [y], nw₄, _, rfl, hlt, rfl, ?_, F₄.change hs₅ (Ne.symm hL4) z4, (hoC.ns yC).sameBut hs₅ e6, by simp [hne, hm'], fun p hp => ?_, off₄, hI₄⟩
    · exact W.frame _ _ _ hst₃ fun b hb o e => by
        rw [List.mem_singleton.mp hb] at e ⊢
        rw [hst₃'] at e
        exact hs₅.extBut _ _ e5 (e ▸ y2)
    · rcases List.mem_cons.mp hp with rfl | hp
      · have z := N₄ _ (List.mem_cons_of_mem _ List.mem_cons_self)
        exact ⟨hs₅.extBut _ _ e3 z.1, z.2⟩
      rcases List.mem_cons.mp hp with rfl | hp
      · exact ⟨hD₅.trans (congrArg some (LCg.lst_snoc ys y)), Ne.symm hL4, z4⟩
      · have z := N₄ p (List.mem_cons_of_mem _ (List.mem_cons_of_mem _ (List.mem_cons_of_mem _ (List.mem_cons_of_mem _ hp))))
        exact ⟨hs₅.extBut _ _ (off₄ p hp).2.2.2 z.1, z.2⟩
  · obtain rfl : j = k := Nat.le_antisymm hj (Nat.not_lt.mp hlt)
    refine W.done _ _ _ hst fun h₂ tk₂ hk₂ => ?_
    refine done h₂ tk₂ ys nw m₂ (LCg.fr_but F' hk₂ hL2 z2) (hn'.at' fun o e => hk₂ _ o (by simpa using Ne.symm e4) e) (LCg.news_but N' hk₂ fun p hp => ?_) off' hI
    rcases List.mem_cons.mp hp with rfl | hp
    · exact e1
    rcases List.mem_cons.mp hp with rfl | hp
    · exact Ne.symm e5
    · exact (off' p hp).1
end

end Mine
namespace Mine
section
variable {prog : Program} {w : World} {A : Around} {s : Shared} {h₀ : Heap} {m : Str → Option Value} {env : Env}

/-- the second source's end -/
def Src2 (h₀ : Heap) (L : Addr) (m : Str → Option Value) (I C D : Addr) (oI oC oD : Obj) (k : Nat) (S : List (Addr × Obj) → Prop) (s : Shared) (xv : Value) (s₁ : Shared) : Prop :=
  ∃ r t u v h' tk nw', xv = .ref r ∧ s₁ = { s with heap := h', toks := tk } ∧ IsRange h' r 0 (k : Int) 1 t u v ∧ Fr h₀ L h' m ∧ News h₀ L h' ((I, oI) :: (C, oC) :: (D, oD) :: nw') ∧ LCg.Off3 I C D nw' ∧ S nw'
/-- the element's end -/
def End2 (h₀ : Heap) (L : Addr) (m : Str → Option Value) (I2 I1 C D : Addr) (oI2 oI1 oC : Obj) (ys : List Value) (S : List Value → List (Addr × Obj) → Prop) (s : Shared) (y : Value) (s₁ : Shared) : Prop :=
  ∃ h' tk' nw', s₁ = { s with heap := h', toks := tk' } ∧ Fr h₀ L h' m ∧ News h₀ L h' ((I2, oI2) :: (I1, oI1) :: (C, oC) :: (D, LCg.lst ys) :: nw') ∧ OffAll I2 I1 C D nw' ∧ S (ys ++ [y]) nw'
def Src1 (h₀ : Heap) (L : Addr) (m : Str → Option Value) (n : Nat) (S : List (Addr × Obj) → Prop) (s : Shared) (xv : Value) (s₁ : Shared) : Prop :=
  ∃ r t u v h' tk nw, xv = .ref r ∧ s₁ = { s with heap := h', toks := tk } ∧ IsRange h' r 0 (n : Int) 1 t u v ∧ Fr h₀ L h' m ∧ News h₀ L h' nw ∧ S nw

theorem assign_comp2 {elt iter1 iter2 : Expr} {x1 x2 y : Str} {p1 p2 py : Pos} {scope : Scope} {cl : List (Str × Addr)} {pos spos : Pos} {L : Addr} {Q : Flow → Shared → Prop} {n : Nat} (kk : Nat → Nat)
    (J : Nat → List Value → List (Addr × Obj) → Prop) (K : Nat → Nat → List Value → List (Addr × Obj) → Prop)
    (hh : A.handled = none) (hLe : env.locals = L)
    (hsw : swapsWith (.ListComp elt [⟨.Name x1 p1, iter1, [], 0⟩, ⟨.Name x2 p2, iter2, [], 0⟩] scope pos) (some (.Name y py)) spos.line env = pure true)
    (hclos : closureFor scope env = pure cl) (hcell : ∀ z ∈ scope.names, z.2 ≠ .cell) (hkind : scope.kind = .function)
    (hnames : ∀ z ∈ scope.names, z.2 = .local → scope.names.lookup z.1 = some .local) (hx1 : scope.names.lookup x1 = some .local) (hx2 : scope.names.lookup x2 = some .local) (hne : x1 ≠ x2)
    (hy : env.kindOf y = some .local) (hp : (env.scope.kind == .class || (env.scope.kind == .module && env.locals != env.globals)) = false)
    (hn : n ≤ 1000) (hk : ∀ i, i < n → kk i ≤ 1000) (hlen : ∀ i j ys nw, K i j ys nw → ys.length ≤ 10000)
    (h1 : wpAny (model prog w) A (eval iter1 env) (Src1 h₀ L m n (J 0 []) s) (fun _ _ => False) s)
    (h2 : ∀ i ys nw oI oC m₂ h tk I C D t1, i < n → J i ys nw → LCg.NsObj oC m₂ → m₂ x1 = some (.int (i : Int) t1) → Fr h₀ L h m → News h₀ L h ((I, oI) :: (C, oC) :: (D, LCg.lst ys) :: nw) → LCg.Off3 I C D nw → ((@Ne Nat I C) ∧ (@Ne Nat I D) ∧ (@Ne Nat C D)) →
      wpAny (model prog w) A (eval iter2 (compEnvC scope cl C env)) (Src2 h₀ L m I C D oI oC (LCg.lst ys) (kk i) (K i 0 ys) { s with heap := h, toks := tk }) (fun _ _ => False) { s with heap := h, toks := tk })
    (helt : ∀ i j ys nw oI1 oI2 oC m₂ h tk I1 I2 C D t1 t2, i < n → j < kk i → K i j ys nw → LCg.NsObj oC m₂ → m₂ x1 = some (.int (i : Int) t1) → m₂ x2 = some (.int (j : Int) t2) → Fr h₀ L h m → News h₀ L h ((I2, oI2) :: (I1, oI1) :: (C, oC) :: (D, LCg.lst ys) :: nw) → OffAll I2 I1 C D nw →
      wpAny (model prog w) A (eval elt (compEnvC scope cl C env)) (End2 h₀ L m I2 I1 C D oI2 oI1 oC ys (K i (j + 1)) { s with heap := h, toks := tk }) (fun _ _ => False) { s with heap := h, toks := tk })
    (hKJ : ∀ i ys nw, i < n → K i (kk i) ys nw → J (i + 1) ys nw)
    (fin : ∀ D h tk ys nw, J n ys nw → Fr h₀ L h (fun z => if z = y then some (.ref D) else m z) → News h₀ L h ((D, LCg.lst ys) :: nw) → (∀ p ∈ nw, p.1 ≠ D) → Q .next { s with heap := h, toks := tk })
    (hs1 : ∀ x, foldedSetIterable iter1 env x = pure x := by intro _; rfl) (hs2 : ∀ e x, foldedSetIterable iter2 e x = pure x := by intro _ _; rfl) :
    wpAny (model prog w) A (exec (.Assign [.Name y py] (.ListComp elt [⟨.Name x1 p1, iter1, [], 0⟩, ⟨.Name x2 p2, iter2, [], 0⟩] scope pos) spos) env) Q (fun _ _ => False) s := by
  subst hLe
  rw [exec_Assign_Name_used _ _ _ _ hsw]
  refine wpAny_bind (wpAny_standAt (wpAny_bind ?_))
  show wpAny _ A (do let _ ← comprehension (.ListComp elt [⟨.Name x1 p1, iter1, [], 0⟩, ⟨.Name x2 p2, iter2, [], 0⟩] scope pos) scope env _ (newList []) false (eval iter1 env) (some (assign (.Name y py) env))) _ _ s
  refine wpAny_bind (wpAny_mono (wpAny_comprehension_free (use := some (assign (.Name y py) env)) (Q := fun _ s' => Q .next s') rfl hs1 hclos hkind hnames
    (wpAny_mono h1 (fun xv s₁ h₁ => ?_) fun _ _ e => e)) (fun _ s' hq => wpAny_pure (wpAny_pure hq)) fun _ _ e => e)
  obtain ⟨r, t, u, v, hA, tkA, news, rfl, rfl, hr, F, N, hJ0⟩ := h₁
  refine wpAny_pyIter_range hr (small_one (by omega) (by omega) (by omega) (by omega)) ?_
  rw [range_size]
  dsimp only
  generalize hI : hA.objs.size = I
  generalize hHB : hA.push { cls := .type "range_iterator", data := .fields #[rawInt 0, rawInt (n : Int), rawInt 1] } = HB
  have upB : ∀ b o, hA.get? b = some o → HB.get? b = some o := fun b o e => hHB ▸ Heap.get?_push_of_some _ e
  have hszB : HB.objs.size = I + 1 := by rw [← hHB, Heap.size_push, hI]
  have hstB : IsRangeIter HB I (0 + (0 : Nat) * 1) ((n : Int) - (0 : Nat)) 1 := by
    show HB.get? I = some _
    rw [← hHB, ← hI]
    simpa using Heap.get?_push_size _ rfl
  have FB : Fr h₀ env.locals HB m := F.keeps upB
  have NB : News h₀ env.locals HB news := N.grown upB
  have hLI : env.locals ≠ I := hI ▸ Nat.ne_of_lt F.ns.lt
  have hI₀ : h₀.get? I = none := hI ▸ next_is_new F
  have offI : ∀ p ∈ news, p.1 ≠ I := fun p hp => hI ▸ Nat.ne_of_lt (Heap.lt_size (N p hp).1)
  refine wpAny_newObj_type (wpAny_newFunctionEnv hcell (by intro y hy; simp at hy) (fun h₁ hns₁ hsb₁ => ?_) hkind)
  dsimp only at hns₁ hsb₁ ⊢
  generalize hH2 : HB.push { cls := .type "list", dict := none, data := .seq ([] : List Value).toArray } = H2 at hns₁ hsb₁ ⊢
  have hC0 : H2.objs.size = HB.objs.size + 1 := by rw [← hH2, Heap.size_push]
  have old0 : ∀ b o, HB.get? b = some o → h₁.get? b = some o := fun b o e => hsb₁.extBut b o (by have := ltN (Heap.lt_size e); exact Nat.ne_of_lt (by omega)) (Heap.get?_push_of_some _ (hH2 ▸ Heap.get?_push_of_some _ e))
  have hacc0 : h₁.get? HB.objs.size = some (LCg.lst []) := hsb₁.extBut _ _ (Nat.ne_of_lt (by omega)) (Heap.get?_push_of_some _ (hH2 ▸ Heap.get?_push_size _ rfl))
  obtain ⟨C, hC⟩ : ∃ C : Nat, C = H2.objs.size := ⟨_, rfl⟩
  obtain ⟨D, hD⟩ : ∃ D : Nat, D = HB.objs.size := ⟨_, rfl⟩
  rw [← hC] at hns₁ hsb₁ hC0 ⊢
  rw [← hD] at hC0 hacc0 ⊢
  have hCD' : C = D + 1 := hC0
  have fresh₀ : ∀ a, HB.objs.size ≤ a → h₀.get? a = none := fun a ha => by
    cases e : h₀.get? a with
    | none => rfl
    | some o' => have := FB.keep a o' e; exact absurd (Heap.lt_size this) (Nat.not_lt.mpr ha)
  have hD₀ : h₀.get? D = none := fresh₀ _ (by omega)
  have hC₀ : h₀.get? C = none := fresh₀ _ (by omega)
  have hLlt : env.locals < HB.objs.size := FB.ns.lt
  have hLl : @LT.lt Nat _ env.locals D := hD ▸ hLlt
  have hDL : D ≠ env.locals := Ne.symm (Nat.ne_of_lt hLl)
  have hCL : C ≠ env.locals := Ne.symm (Nat.ne_of_lt (by omega))
  have hIC : I ≠ C := Nat.ne_of_lt (by omega)
  have hID : I ≠ D := Nat.ne_of_lt (by omega)
  have hCD : C ≠ D := Ne.symm (Nat.ne_of_lt (by omega))
  have old := old0
  have hacc : h₁.get? D = some (LCg.lst []) := hacc0
  have W := LCg.range_walks (prog := prog) (w := w) (A := A) (I := I) hh 0 n
  have hst₁ : IsRangeIter h₁ I (0 + (0 : Nat) * 1) ((n : Int) - (0 : Nat)) 1 := W.frame _ _ _ hstB fun b _ o e => old b o e
  have off₀ : LCg.Off3 I C D news := LCg.Off3.of fun p hp => ⟨offI p hp, Nat.ne_of_lt (by have := ltN (Heap.lt_size (NB p hp).1); omega), Nat.ne_of_lt (by have := ltN (Heap.lt_size (NB p hp).1); omega)⟩
  have loop : ∀ s₃ : Shared, s₃ = { s with heap := h₁, toks := tkA + ([] : List (Str × Value)).length } →
      codeAny (model prog w) A (.compLoop (.ListComp elt [⟨.Name x1 p1, iter1, [], 0⟩, ⟨.Name x2 p2, iter2, [], 0⟩] scope pos) 0 (.ref I) (.ref D) (compEnvC scope cl C env))
        (compPost (model prog w) A (fun _ _ => False) (some (assign (.Name y py) env)) (fun _ s' => Q .next s') (.ref D) C) s₃ := by
    rintro s₃ rfl
    refine outer_loop hh
      (fun k s' => ∃ h' tk i ys m' nw, s' = { s with heap := h', toks := tk } ∧ i ≤ n ∧ k = n + 1 - i ∧ IsRangeIter h' I (0 + (i : Nat) * 1) ((n : Int) - (i : Nat)) 1 ∧ Fr h₀ env.locals h' m ∧ h'.Ns C m' ∧ News h₀ env.locals h' ((D, LCg.lst ys) :: nw) ∧
        LCg.Off3 I C D nw ∧ J i ys nw) ?_ (n + 1)
      ⟨h₁, _, 0, [], _, news, rfl, Nat.zero_le _, rfl, hst₁, FB.keeps old, hns₁, fun p hp => ?_, off₀, hJ0⟩ (by intro _; rfl) (hs2 _)
    · rintro k s' ⟨h', tk, i, ys, m', nw, rfl, hi, rfl, hst', F', hn', N', off', hJ⟩
      by_cases hlt : i < n
      · refine W.item i _ _ _ hlt hst' fun v h₂ tk₂ hPv hst₂ hk₂ => ?_
        obtain ⟨t1, rfl⟩ := hPv
        refine wpAny_assign_Name (wpAny_storeName_local (lookup_relabel_local hx1) (hn'.at' fun o e => hk₂ _ o (by simpa using Ne.symm hIC) e) (fun h₃ hn₃ hs₃ => ?_) (by simp [compEnvC, relabel, hkind]))
        have hst₃ := W.frame _ _ _ hst₂ fun b hb o e => hs₃.extBut b o (fun q => hIC (by rw [← List.mem_singleton.mp hb]; exact q)) e
        have hst₃' : h₃.get? I = some _ := hst₃
        obtain ⟨oC, heC, hoC⟩ := LCg.ns_obj hn₃
        have F₃ : Fr h₀ env.locals h₃ m := (LCg.fr_but F' hk₂ hLI hI₀).change hs₃ hCL hC₀
        have off3 := off'.mem
        have N₂ : News h₀ env.locals h₂ ((D, LCg.lst ys) :: nw) := LCg.news_but N' hk₂ fun p hp => by
          rcases List.mem_cons.mp hp with rfl | hp
          · exact Ne.symm hID
          · exact (off3 p hp).1
        have N₃ : News h₀ env.locals h₃ ((I, _) :: (C, oC) :: (D, LCg.lst ys) :: nw) := fun p hp => by
          rcases List.mem_cons.mp hp with rfl | hp
          · exact ⟨hst₃', Ne.symm hLI, hI₀⟩
          rcases List.mem_cons.mp hp with rfl | hp
          · exact ⟨heC, hCL, hC₀⟩
          · have z := N₂ p hp
            refine ⟨hs₃.extBut _ _ ?_ z.1, z.2⟩
            rcases List.mem_cons.mp hp with rfl | hp
            · exact Ne.symm hCD
            · exact (off3 p hp).2.1
        have hxx : (0 : Int) + (i : Int) = (i : Int) := Int.zero_add _
        refine wpAny_mono (h2 i ys nw _ oC _ h₃ _ I C D t1 hlt hJ hoC (by simp [hxx]) F₃ N₃ off' ⟨hIC, hID, hCD⟩) (fun xv s₄ q => ?_) fun _ _ e => e
        obtain ⟨r2, t2, u2, v2, h₄, tk₄, nw₄, rfl, rfl, hr2, F₄, N₄, off₄, hK0⟩ := q
        refine wpAny_pyIter_range hr2 (small_one (by omega) (by have := hk i hlt; omega) (by omega) (by have := hk i hlt; omega)) ?_
        rw [range_size]
        dsimp only
        generalize hI2 : h₄.objs.size = I2
        generalize hH5 : h₄.push { cls := .type "range_iterator", data := .fields #[rawInt 0, rawInt (kk i : Int), rawInt 1] } = H5
        have up5 : ∀ b o, h₄.get? b = some o → H5.get? b = some o := fun b o e => hH5 ▸ Heap.get?_push_of_some _ e
        have hst5 : IsRangeIter H5 I2 (0 + (0 : Nat) * 1) ((kk i : Int) - (0 : Nat)) 1 := by
          show H5.get? I2 = some _
          rw [← hH5, ← hI2]
          simpa using Heap.get?_push_size _ rfl
        have F5 : Fr h₀ env.locals H5 m := F₄.keeps up5
        have N5 := N₄.grown up5
        have zI := ltN (Heap.lt_size (N₄ _ List.mem_cons_self).1)
        have zC := (N₄ _ (List.mem_cons_of_mem _ List.mem_cons_self)).1
        have zD := ltN (Heap.lt_size (N₄ _ (List.mem_cons_of_mem _ (List.mem_cons_of_mem _ List.mem_cons_self))).1)
        have zC5 := (N5 _ (List.mem_cons_of_mem _ List.mem_cons_self)).1
        have zCl := ltN (Heap.lt_size zC)
        have zL := ltN F₄.ns.lt
        dsimp only at zI zD zCl
        have hI2₀ : h₀.get? I2 = none := hI2 ▸ next_is_new F₄
        have off5 : OffAll I2 I C D nw₄ := fun p hp => ⟨Nat.ne_of_lt (by have := ltN (Heap.lt_size (N₄ p (List.mem_cons_of_mem _ (List.mem_cons_of_mem _ (List.mem_cons_of_mem _ hp)))).1); omega), off₄.mem p hp⟩
        have N6 : News h₀ env.locals H5 ((I, _) :: (D, LCg.lst ys) :: nw₄) := fun p hp => by
          rcases List.mem_cons.mp hp with rfl | hp
          · exact N5 _ List.mem_cons_self
          · exact N5 _ (List.mem_cons_of_mem _ (List.mem_cons_of_mem _ hp))
        have inner : codeAny (model prog w) A (.compLoop (.ListComp elt [⟨.Name x1 p1, iter1, [], 0⟩, ⟨.Name x2 p2, iter2, [], 0⟩] scope pos) 1 (.ref I2) (.ref D) (compEnvC scope cl C env))
            (fun r s₅ => match r with | .ok _ => ∃ m_1, m_1 < n + 1 - i ∧ ∃ h' tk i ys m' nw, s₅ = { s with heap := h', toks := tk } ∧ i ≤ n ∧ m_1 = n + 1 - i ∧ IsRangeIter h' I (0 + (i : Nat) * 1) ((n : Int) - (i : Nat)) 1 ∧ Fr h₀ env.locals h' m ∧ h'.Ns C m' ∧ News h₀ env.locals h' ((D, LCg.lst ys) :: nw) ∧ LCg.Off3 I C D nw ∧ J i ys nw | .error _ => False)
            { s with heap := H5, toks := tk₄ } := by
          refine inner_ranges (x1 := x1) (v1 := .int (i : Int) t1) (m := m) (L := env.locals) (I1 := I) (C := C) (D := D) (k := kk i) (oI1 := _) hh hx2 hkind hne (hk i hlt) (K i) (hlen i) (Nat.ne_of_lt (by omega)) hIC hID (Ne.symm (Nat.ne_of_lt (by omega))) (Ne.symm (Nat.ne_of_lt (by omega))) hCD hLI (Nat.ne_of_lt (by omega)) (Ne.symm hCL) (Ne.symm hDL)
            hI₀ hI2₀ hC₀ hD₀ ?_ (by simpa using hst5) F5 (hoC.ns zC5) (by simp [hxx]) N6 off5 hK0 ?_
          · intro j ys nw oI2 oC m₂ h tk t2 hj hK hoC hm1 hm2 F N off
            exact helt i j ys nw _ oI2 oC m₂ h tk I I2 C D t1 t2 hlt hj hK hoC hm1 hm2 F N off
          · intro h₇ tk₇ ys₇ nw₇ m₇ F₇ hn₇ N₇ off₇ hK₇
            refine ⟨n + 1 - (i + 1), by omega, h₇, tk₇, i + 1, ys₇, m₇, nw₇, rfl, hlt, rfl, (N₇ _ List.mem_cons_self).1, F₇, hn₇, fun p hp => N₇ p (List.mem_cons_of_mem _ hp), LCg.Off3.of fun p hp => (off₇ p hp).2, hKJ _ _ _ hlt hK₇⟩
        exact inner_start inner ((LCg.range_walks (prog := prog) (w := w) (A := A) (I := I2) hh 0 (kk i)).self 0 _ _ _ hst5 inner)
      · obtain rfl : i = n := Nat.le_antisymm hi (Nat.not_lt.mp hlt)
        refine W.done _ _ _ hst' fun h₂ tk₂ hk₂ => ?_
        have off3 := off'.mem
        have F₂ := LCg.fr_but F' hk₂ hLI hI₀
        have N₂ := LCg.news_but N' hk₂ fun p hp => by
          rcases List.mem_cons.mp hp with rfl | hp
          · exact Ne.symm hID
          · exact (off3 p hp).1
        have hn₂ := hn'.at' fun o e => hk₂ _ o (by simpa using Ne.symm hIC) e
        show wpAny _ A (assign (.Name y py) env (.ref D)) _ _ _
        refine wpAny_assign_Name (wpAny_storeName_local hy F₂.ns (fun h₃ hn₃ hs₃ => ?_) hp)
        have hL₀ : h₀.get? env.locals = none := Heap.get?_none_of_le F₂.above
        have F₃ : Fr h₀ env.locals h₃ (fun z => if z = y then some (.ref D) else m z) := ⟨hn₃, fun b o e => hs₃.extBut b o (fun q => by rw [q, hL₀] at e; cases e) (F₂.keep b o e), F₂.above⟩
        refine ⟨m', hn₂.sameBut hs₃ hCL, fun h'' hs'' => fin D h'' _ ys nw hJ (F₃.change hs'' hCL hC₀) (fun p hp => ?_) (fun p hp => (off3 p hp).2.2)⟩
        have z : h₃.get? p.1 = some p.2 := hs₃.extBut _ _ (N₂ p hp).2.1 (N₂ p hp).1
        refine ⟨hs''.extBut _ _ ?_ z, (N₂ p hp).2⟩
        rcases List.mem_cons.mp hp with rfl | hp
        · exact Ne.symm hCD
        · exact (off3 p hp).2.1
    · rcases List.mem_cons.mp hp with rfl | hp
      · exact ⟨hacc, hDL, hD₀⟩
      · exact ⟨old _ _ (NB p hp).1, (NB p hp).2⟩
  exact codeAny_compStart_list (loop _ rfl) (W.self 0 _ _ _ hst₁ (loop _ rfl))
end

end Mine
namespace Mine
/-- the places before each dot, rule by rule -/
def dotsOf (ps : List (Int × List Int)) (n : Nat) : List (Nat × Nat) := (List.range n).flatMap fun i => (List.range (lenAt ps i)).map fun j => (i, j)
theorem dotsOf_succ (ps : List (Int × List Int)) (n : Nat) : dotsOf ps (n + 1) = dotsOf ps n ++ (List.range (lenAt ps n)).map fun j => (n, j) := by
  unfold dotsOf; rw [List.range_succ, List.flatMap_append]; simp
theorem dotsOf_len (ps : List (Int × List Int)) : ∀ n, (dotsOf ps n).length = offAt ps n
  | 0 => rfl
  | n + 1 => by rw [dotsOf_succ, List.length_append, dotsOf_len ps n, offAt_succ, List.length_map, List.length_range]
theorem dots_get (ps : List (Int × List Int)) : ∀ n {k i j : Nat}, (dotsOf ps n)[k]? = some (i, j) → i < n ∧ j < lenAt ps i ∧ offAt ps i + j = k ∧ (ownsN ps n)[k]? = some (i : Int)
  | 0, k, i, j, h => by simp [dotsOf] at h
  | n + 1, k, i, j, h => by
    rw [dotsOf_succ] at h
    rcases Nat.lt_or_ge k (dotsOf ps n).length with hk | hk
    · rw [List.getElem?_append_left hk] at h
      obtain ⟨h1, h2, h3, h4⟩ := dots_get ps n h
      refine ⟨by omega, h2, h3, ?_⟩
      rw [ownsN_succ, List.getElem?_append_left (by rw [ownsN_len, ← dotsOf_len]; exact hk)]
      exact h4
    · rw [List.getElem?_append_right hk, List.getElem?_map] at h
      rw [dotsOf_len] at h hk
      rw [ownsN_succ, List.getElem?_append_right (by rw [ownsN_len]; exact hk), ownsN_len]
      rcases Nat.lt_or_ge (k - offAt ps n) (lenAt ps n) with hl | hl
      · rw [List.getElem?_range hl] at h
        simp only [Option.map_some, Option.some.injEq, Prod.mk.injEq] at h
        obtain ⟨rfl, rfl⟩ := h
        exact ⟨by omega, hl, by omega, by rw [List.getElem?_replicate, if_pos hl]⟩
      · rw [List.getElem?_eq_none (by simpa using hl)] at h
        cases h
/-- the list of dots, in the ledger -/
def DotsIn (news : List (Addr × Obj)) (dv : List Value) (ds : List (Nat × Nat)) : Prop :=
  dv.length = ds.length ∧ ∀ (k i j : Nat), ds[k]? = some (i, j) → ∃ a ti tj e, dv[k]? = some (Value.ref a) ∧ (a, tupOf #[Value.int (i : Int) ti, Value.int (j : Int) tj] e) ∈ news
theorem DotsIn.mono {news news' : List (Addr × Obj)} {dv : List Value} {ds : List (Nat × Nat)} (h : DotsIn news dv ds) (hs : ∀ p ∈ news, p ∈ news') : DotsIn news' dv ds := by
  refine ⟨h.1, fun k i j e => ?_⟩
  obtain ⟨a, ti, tj, e, h1, h2⟩ := h.2 k i j e
  exact ⟨a, ti, tj, e, h1, hs _ h2⟩
theorem DotsIn.snoc {news : List (Addr × Obj)} {dv : List Value} {ds : List (Nat × Nat)} (h : DotsIn news dv ds) {a : Addr} {i j : Nat} {ti tj : Tok} {e : Nat} (h1 : (a, tupOf #[Value.int (i : Int) ti, Value.int (j : Int) tj] e) ∈ news) :
    DotsIn news (dv ++ [Value.ref a]) (ds ++ [(i, j)]) := by
  refine ⟨by rw [List.length_append, List.length_append, h.1]; rfl, fun k i' j' he => ?_⟩
  rcases Nat.lt_or_ge k ds.length with hi | hi
  · rw [List.getElem?_append_left hi] at he
    rw [List.getElem?_append_left (by rw [h.1]; exact hi)]
    exact h.2 k i' j' he
  · rw [List.getElem?_append_right hi] at he
    rcases Nat.eq_or_lt_of_le hi with hi' | hi'
    · rw [← hi', Nat.sub_self] at he
      simp at he
      obtain ⟨rfl, rfl⟩ := he
      refine ⟨a, ti, tj, e, ?_, h1⟩
      rw [List.getElem?_append_right (by rw [h.1]; omega), ← hi', h.1, Nat.sub_self]; rfl
    · rw [List.getElem?_eq_none (by simp; omega)] at he; cases he
def DotsJ (nw : List (Addr × Obj)) (ps : List (Int × List Int)) (i : Nat) (ys : List Value) (nw' : List (Addr × Obj)) : Prop :=
  (∀ q ∈ nw, q ∈ nw') ∧ DotsIn nw' ys (dotsOf ps i)
def DotsK (nw : List (Addr × Obj)) (ps : List (Int × List Int)) (i j : Nat) (ys : List Value) (nw' : List (Addr × Obj)) : Prop :=
  (∀ q ∈ nw, q ∈ nw') ∧ DotsIn nw' ys (dotsOf ps i ++ (List.range j).map fun j => (i, j)) ∧ ys.length ≤ 4 * i + 4 ∧ i ≤ 7
theorem dots_end {h₀ h' : Heap} {L I2 I1 C D x : Addr} {oI2 oI1 oC : Obj} {m : Str → Option Value} {nw fam : List (Addr × Obj)} {i j tk e : Nat} {ti tj : Tok} {ys : List Value} {ps : List (Int × List Int)} {s₁ : Shared}
    (F : Fr h₀ L h' m) (N : News h₀ L h' ((x, tupOf #[Value.int (i : Int) ti, Value.int (j : Int) tj] e) :: (I2, oI2) :: (I1, oI1) :: (C, oC) :: (D, LCg.lst ys) :: fam))
    (hA : (@LT.lt Nat instLTNat I2 x) ∧ (@LT.lt Nat instLTNat I1 x) ∧ (@LT.lt Nat instLTNat C x) ∧ (@LT.lt Nat instLTNat D x) ∧ AllLt x fam) (off : OffAll I2 I1 C D fam)
    (hK : DotsK nw ps i j ys fam) (hps : ∀ i, lenAt ps i ≤ 4) (hoff : ∀ n, offAt ps n ≤ 4 * n) (hj : j < lenAt ps i) :
    End2 h₀ L m I2 I1 C D oI2 oI1 oC ys (DotsK nw ps i (j + 1)) s₁ (Value.ref x) { s₁ with heap := h', toks := tk } := by
  have hl := hps i
  have ho := hoff i
  refine ⟨h', tk, (x, tupOf #[Value.int (i : Int) ti, Value.int (j : Int) tj] e) :: fam, rfl, F, fun q hq => N q ?_, fun p hp => ?_, fun q hq => List.mem_cons_of_mem _ (hK.1 q hq), ?_, ?_, hK.2.2.2⟩
  · simp only [List.mem_cons] at hq ⊢
    rcases hq with h | h | h | h | h | h <;> simp [h]
  · rcases List.mem_cons.mp hp with rfl | hp
    · exact ⟨Nat.ne_of_gt hA.1, Nat.ne_of_gt hA.2.1, Nat.ne_of_gt hA.2.2.1, Nat.ne_of_gt hA.2.2.2.1⟩
    · exact off p hp
  · have h2 := (hK.2.1.mono (fun q hq => List.mem_cons_of_mem _ hq) : DotsIn ((x, tupOf #[Value.int (i : Int) ti, Value.int (j : Int) tj] e) :: fam) ys _).snoc List.mem_cons_self
    rw [List.append_assoc] at h2
    rw [List.range_succ, List.map_append]
    exact h2
  · have := hK.2.1.1
    rw [List.length_append, dotsOf_len, List.length_map, List.length_range] at this
    rw [List.length_append, this]
    show offAt ps i + j + 1 ≤ _
    omega
theorem offAt_le {ps : List (Int × List Int)} (h : ∀ i, lenAt ps i ≤ 4) : ∀ n, offAt ps n ≤ 4 * n
  | 0 => Nat.le_refl _
  | n + 1 => by rw [offAt_succ]; have := offAt_le h n; have := h n; omega
theorem lenAt_le4 {ps : List (Int × List Int)} (h : ∀ q ∈ ps, q.2.length ≤ 3) (i : Nat) : lenAt ps i ≤ 4 := by
  unfold lenAt
  rcases Nat.lt_or_ge i ps.length with hi | hi
  · have := h ps[i] (List.getElem_mem hi)
    simp only [List.getD_eq_getElem?_getD, List.getElem?_eq_getElem hi, Option.getD_some]
    omega
  · simp [List.getD_eq_getElem?_getD, List.getElem?_eq_none hi]
theorem src2_mk {h₀ h' : Heap} {L I C D r : Addr} {m : Str → Option Value} {oI oC oD : Obj} {k tk : Nat} {b : Int} {t u v : Tok} {S : List (Addr × Obj) → Prop} {s : Shared} {fam : List (Addr × Obj)}
    (R : IsRange h' r 0 b 1 t u v) (hb : b = (k : Int)) (F : Fr h₀ L h' m) (N : News h₀ L h' ((I, oI) :: (C, oC) :: (D, oD) :: fam)) (off : LCg.Off3 I C D fam) (hS : S fam) :
    Src2 h₀ L m I C D oI oC oD k S s (Value.ref r) { s with heap := h', toks := tk } := by
  subst hb
  exact ⟨r, t, u, v, h', tk, fam, rfl, rfl, R, F, N, off, hS⟩
theorem GramIn.mono {P : Params} {news news' : List (Addr × Obj)} {g an : Addr} {cnt : Int} {names : List Str} {ps : List (Int × List Int)} (h : GramIn P news g an cnt names ps) (hs : ∀ p ∈ news, p ∈ news') : GramIn P news' g an cnt names ps := by
  obtain ⟨gd, k, rl, lv, st, bl, off, ow, t, nv, ne, rv, re, ov, oe, wv, we, bv, be, h1, h2, h3, h4, h5, h6, h7, h8, h9, h10, h11, h12, h13, h14⟩ := h
  refine ⟨gd, k, rl, lv, st, bl, off, ow, t, nv, ne, rv, re, ov, oe, wv, we, bv, be, hs _ h1, hs _ h2, hs _ h3, h4, hs _ h5, h6, h7.mono hs, hs _ h8, h9, hs _ h10, h11, hs _ h12, h13, fun j hj => ?_⟩
  obtain ⟨b, its, e, a1, a2, a3⟩ := h14 j hj
  exact ⟨b, its, e, a1, hs _ a2, a3⟩
theorem listOf_inj {a b : List Value} {n k : Nat} (h : listOf a.toArray n = listOf b.toArray k) : a = b ∧ n = k := by
  have h1 := congrArg Obj.data h
  dsimp only at h1
  injection h1 with h2 h3
  exact ⟨by injection h2, h3⟩
theorem names_len {a b : Nat} (ha : 1 ≤ a ∧ a ≤ 3) (hb : 1 ≤ b ∧ b ≤ 3) : ∀ x ∈ namesOf a b, x.length ≤ 20 :=
  names_all (P := fun ns _ => ∀ x ∈ ns, x.length ≤ 20) (by decide) ha hb
/-- what one number's dot has to do with the grammar's lists -/
theorem dots_facts {ps : List (Int × List Int)} {k i j : Nat} (h : (dotsOf ps ps.length)[k]? = some (i, j)) :
    i < ps.length ∧ j < lenAt ps i ∧ (ownsN ps ps.length).getD ((k : Nat) : Int).toNat 0 = (i : Int) ∧ (offsN ps ps.length).getD ((i : Nat) : Int).toNat 0 = (offAt ps i : Nat) ∧ (offAt ps i : Int) + (j : Int) = (k : Int) := by
  obtain ⟨h1, h2, h3, h4⟩ := dots_get ps _ h
  refine ⟨h1, h2, ?_, ?_, by omega⟩
  · show (ownsN ps ps.length).getD k 0 = _
    rw [List.getD_eq_getElem?_getD, h4]; rfl
  · show (offsN ps ps.length).getD i 0 = _
    unfold offsN
    rw [List.getD_eq_getElem?_getD, List.getElem?_map, List.getElem?_range h1]
    rfl
theorem after_eq {v k o : Int} {dt : Nat} {r : List Int} (hv : v = if k - o < (r.length : Int) then r.getD (k - o).toNat 0 else -1) (ho : k - o = (dt : Nat)) (hd : dt < r.length + 1) : v = (r ++ [-1]).getD ((dt : Nat) : Int).toNat 0 := by
  rw [hv, ho]
  show _ = (r ++ [-1]).getD dt 0
  rw [List.getD_eq_getElem?_getD, List.getD_eq_getElem?_getD]
  by_cases h : dt < r.length
  · rw [if_pos (by omega), List.getElem?_append_left h]; rfl
  · rw [if_neg (by omega), List.getElem?_append_right (by omega), show dt - r.length = 0 by omega]; rfl

end Mine
namespace Mine
section
variable {prog : Program} {w : World} {A : Around} {s : Shared} {h₀ : Heap} {m : Str → Option Value} {env : Env}
def TurnC (h₀ : Heap) (L I c : Addr) (oI o : Obj) (m : Str → Option Value) (Jn : List (Addr × Obj) → Prop) (s : Shared) (Q : Flow → Shared → Prop) (f : Flow) (s₂ : Shared) : Prop :=
  match f with
  | .ret v => Q (.ret v) s₂
  | .brk => Q .next s₂
  | _ => ∃ h' tk nw, s₂ = { s with heap := h', toks := tk } ∧ Fr h₀ L h' m ∧ News h₀ L h' ((I, oI) :: (c, o) :: nw) ∧ (∀ p ∈ nw, p.1 ≠ I ∧ p.1 ≠ c) ∧ Jn nw
theorem for_cell {x : Str} {px pos : Pos} {iter : Expr} {body : List Stmt} {c : Addr} {n : Nat} {Q : Flow → Shared → Prop} (J : Nat → List (Addr × Obj) → Prop)
    (hh : A.handled = none) (hk : env.scope.kind = .function) (hl : env.kindOf x = some .cell) (hc : env.cells.lookup x = some c) (hn : n ≤ 1000)
    (h1 : wpAny (model prog w) A (eval iter env) (Src1 h₀ env.locals m n (fun nw => ∃ o vo nw', (∀ q ∈ (c, o) :: nw', q ∈ nw) ∧ o.data = .cell vo ∧ (∀ p ∈ nw', p.1 ≠ c) ∧ J 0 nw') s) (fun _ _ => False) s)
    (turn : ∀ i o oI nw h tk t I, i < n → J i nw → o.data = .cell (some (.int (i : Int) t)) → Fr h₀ env.locals h m → News h₀ env.locals h ((I, oI) :: (c, o) :: nw) → (∀ p ∈ nw, p.1 ≠ I ∧ p.1 ≠ c) →
      wpAny (model prog w) A (execs body env) (TurnC h₀ env.locals I c oI o m (J (i + 1)) { s with heap := h, toks := tk } Q) (fun _ _ => False) { s with heap := h, toks := tk })
    (done : ∀ h tk o vo nw, J n nw → o.data = .cell vo → Fr h₀ env.locals h m → News h₀ env.locals h ((c, o) :: nw) → Q .next { s with heap := h, toks := tk })
    (hs : ∀ x, foldedSetIterable iter env x = pure x := by intro _; rfl) :
    wpAny (model prog w) A (exec (.For (.Name x px) iter body [] pos) env) Q (fun _ _ => False) s := by
  refine wpAny_For (wpAny_mono h1 (fun xv s₁ q => ?_) fun _ _ e => e) hs
  obtain ⟨r, t, u, v, hA, tkA, nwA, rfl, rfl, hr, F, N0, o, vo, nw, hsub, hd, hoc, hJ0⟩ := q
  have N : News h₀ env.locals hA ((c, o) :: nw) := fun p hp => N0 p (hsub p hp)
  refine wpAny_pyIter_range hr (small_one (by omega) (by omega) (by omega) (by omega)) ?_
  rw [range_size]
  dsimp only
  generalize hI : hA.objs.size = I
  generalize hHB : hA.push { cls := .type "range_iterator", data := .fields #[rawInt 0, rawInt (n : Int), rawInt 1] } = HB
  have upB : ∀ b o, hA.get? b = some o → HB.get? b = some o := fun b o e => hHB ▸ Heap.get?_push_of_some _ e
  have hstB : IsRangeIter HB I (0 + (0 : Nat) * 1) ((n : Int) - (0 : Nat)) 1 := by
    show HB.get? I = some _
    rw [← hHB, ← hI]
    simpa using Heap.get?_push_size _ rfl
  have hLI : env.locals ≠ I := hI ▸ Nat.ne_of_lt F.ns.lt
  have hI₀ : h₀.get? I = none := hI ▸ next_is_new F
  have offI : ∀ p ∈ (c, o) :: nw, p.1 ≠ I := fun p hp => hI ▸ Nat.ne_of_lt (Heap.lt_size (N p hp).1)
  have hcI : c ≠ I := offI _ List.mem_cons_self
  have hcL : c ≠ env.locals := (N _ List.mem_cons_self).2.1
  have hc₀ : h₀.get? c = none := (N _ List.mem_cons_self).2.2
  have W := LCg.range_walks (prog := prog) (w := w) (A := A) (I := I) hh 0 n
  refine codeAny_forLoop
    (fun k s' => ∃ h' tk i o vo nw, s' = { s with heap := h', toks := tk } ∧ i ≤ n ∧ k = n + 1 - i ∧ IsRangeIter h' I (0 + (i : Nat) * 1) ((n : Int) - (i : Nat)) 1 ∧ Fr h₀ env.locals h' m ∧ News h₀ env.locals h' ((c, o) :: nw) ∧ o.data = .cell vo ∧ (∀ p ∈ nw, p.1 ≠ I ∧ p.1 ≠ c) ∧ J i nw) ?_ (n + 1)
    ⟨HB, tkA, 0, o, vo, nw, rfl, Nat.zero_le _, rfl, hstB, F.keeps upB, N.grown upB, hd, fun p hp => ⟨offI p (List.mem_cons_of_mem _ hp), hoc p hp⟩, hJ0⟩
  rintro k s' ⟨h', tk, i, o, vo, nw, rfl, hi, rfl, hst', F', N', hd', off', hJ⟩
  by_cases hlt : i < n
  · refine W.item i _ _ _ hlt hst' fun v h₂ tk₂ hPv hst₂ hk₂ => ?_
    obtain ⟨t1, rfl⟩ := hPv
    have F₂ := LCg.fr_but F' hk₂ hLI hI₀
    have N₂ : News h₀ env.locals h₂ ((c, o) :: nw) := LCg.news_but N' hk₂ fun p hp => by
      rcases List.mem_cons.mp hp with rfl | hp
      · exact hcI
      · exact (off' p hp).1
    refine wpAny_assign_Name (wpAny_storeName_cell hk hl hc ⟨o, (N₂ _ List.mem_cons_self).1, hd'⟩ fun h₃ hv hs₃ => ?_)
    obtain ⟨o₃, ho₃, hd₃⟩ := hv
    have hst₃ := W.frame _ _ _ hst₂ fun b hb o e => hs₃.extBut b o (fun q => hcI (by rw [← List.mem_singleton.mp hb]; exact q.symm)) e
    obtain ⟨oI, hst₃', hIr⟩ : ∃ oI, h₃.get? I = some oI ∧ ∀ h', h'.get? I = some oI → IsRangeIter h' I (0 + ((i + 1 : Nat) : Int) * 1) ((n : Int) - ((i + 1 : Nat) : Int)) 1 := ⟨_, hst₃, fun h' e => e⟩
    have F₃ : Fr h₀ env.locals h₃ m := F₂.change hs₃ hcL hc₀
    have N₃ : News h₀ env.locals h₃ ((I, oI) :: (c, o₃) :: nw) := fun p hp => by
      rcases List.mem_cons.mp hp with rfl | hp
      · exact ⟨hst₃', Ne.symm hLI, hI₀⟩
      rcases List.mem_cons.mp hp with rfl | hp
      · exact ⟨ho₃, hcL, hc₀⟩
      · have z := N₂ p (List.mem_cons_of_mem _ hp)
        exact ⟨hs₃.extBut _ _ (off' p hp).2 z.1, z.2⟩
    have hxx : (0 : Int) + (i : Int) = (i : Int) := Int.zero_add _
    rw [hxx] at hd₃
    refine wpAny_mono (turn i o₃ oI nw h₃ _ t1 I hlt hJ hd₃ F₃ N₃ off') (fun f s₃ q => ?_) fun _ _ e => e.elim
    have nxt : (∃ h' tk nw, s₃ = { s with heap := h', toks := tk } ∧ Fr h₀ env.locals h' m ∧ News h₀ env.locals h' ((I, oI) :: (c, o₃) :: nw) ∧ (∀ p ∈ nw, p.1 ≠ I ∧ p.1 ≠ c) ∧ J (i + 1) nw) →
        ∃ m_1, m_1 < n + 1 - i ∧ ∃ h' tk i o vo nw, s₃ = { s with heap := h', toks := tk } ∧ i ≤ n ∧ m_1 = n + 1 - i ∧ IsRangeIter h' I (0 + (i : Nat) * 1) ((n : Int) - (i : Nat)) 1 ∧ Fr h₀ env.locals h' m ∧ News h₀ env.locals h' ((c, o) :: nw) ∧ o.data = .cell vo ∧ (∀ p ∈ nw, p.1 ≠ I ∧ p.1 ≠ c) ∧ J i nw := by
      rintro ⟨h', tk, nw, e, F, N, off, hJ⟩
      refine ⟨n + 1 - (i + 1), by omega, h', tk, i + 1, o₃, _, nw, e, hlt, rfl, ?_, F, fun p hp => N p (List.mem_cons_of_mem _ hp), hd₃, off, hJ⟩
      exact hIr _ (N _ List.mem_cons_self).1
    cases f with
    | ret v => exact q
    | brk => exact q
    | next => exact nxt q
    | cont => exact nxt q
  · obtain rfl : i = n := Nat.le_antisymm hi (Nat.not_lt.mp hlt)
    refine W.done _ _ _ hst' fun h₂ tk₂ hk₂ => ?_
    refine wpAny_execs_nil ?_
    exact done h₂ tk₂ o vo nw hJ hd' (LCg.fr_but F' hk₂ hLI hI₀) (LCg.news_but N' hk₂ fun p hp => by
      rcases List.mem_cons.mp hp with rfl | hp
      · exact hcI
      · exact (off' p hp).1)
end
section
variable {prog : Program} {w : World} {A : Around} {E : Value → Shared → Prop} {s : Shared} {h₀ : Heap} {L : Addr} {m : Str → Option Value} {env : Env}
/-- the turns of a comprehension with a test -/
theorem rest_ind_t {ct elt : Expr} {x : Str} {scope : Scope} {cl : List (Str × Addr)} {S : List (Addr × Obj) → Prop} {P : Nat → Value → Prop} {Fin : List Value → List (Addr × Obj) → Prop} {n : Nat}
    (Inv : Nat → List Value → List (Addr × Obj) → Prop)
    (step : ∀ i ys news v I oI C oC D m₂ h tk (E' : Value → Shared → Prop), i < n → Inv i ys news → P i v → LCg.NsObj oC m₂ → m₂ x = some v → Fr h₀ L h m → News h₀ L h ((I, oI) :: (C, oC) :: (D, LCg.lst ys) :: news) →
      LCg.Off3 I C D news → ((@Ne Nat I C) ∧ (@Ne Nat I D) ∧ (@Ne Nat C D)) →
      wpAny (model prog w) A (isTrue ct (compEnvC scope cl C env) (eval ct (compEnvC scope cl C env))) (fun ok s' => if ok = true then
        wpAny (model prog w) A (eval elt (compEnvC scope cl C env)) (LCg.CompEnd h₀ L m { s with heap := h, toks := tk } I oI C oC D (LCg.lst ys) S (fun y news' => Inv (i + 1) (ys ++ [y]) news')) E' s'
        else LCg.CompEnd h₀ L m { s with heap := h, toks := tk } I oI C oC D (LCg.lst ys) S (fun _ news' => Inv (i + 1) ys news') Value.none s') E' { s with heap := h, toks := tk })
    (fin : ∀ ys news, Inv n ys news → Fin ys news) :
    ∀ k i ys news, i + k = n → Inv i ys news → LCt.CompRestT prog w A h₀ L m env ct elt x scope cl s S P Fin k i ys news := by
  intro k
  induction k with
  | zero => intro i ys news e hI; have : i = n := by omega
            subst this; exact fin ys news hI
  | succ k ih =>
    intro i ys news e hI
    refine LCt.CompRestT.succ ?_
    intro v I oI C oC D m₂ h tk E' hP hC hx F N off ne
    refine wpAny_mono (step i ys news v I oI C oC D m₂ h tk E' (by omega) hI hP hC hx F N off ne) (fun ok s₂ q => ?_) fun _ _ e => e
    cases ok with
    | true =>
      simp only [if_true] at q ⊢
      refine wpAny_mono q (fun y s₃ q => ?_) fun _ _ e => e
      obtain ⟨h', tk', news', e1, F', N', off', hS, hI'⟩ := q
      exact ⟨h', tk', news', e1, F', N', off', hS, ih _ _ _ (by omega) hI'⟩
    | false =>
      simp only [Bool.false_eq_true, if_false] at q ⊢
      obtain ⟨h', tk', news', e1, F', N', off', hS, hI'⟩ := q
      exact ⟨h', tk', news', e1, F', N', off', hS, ih _ _ _ (by omega) hI'⟩
/-- where a comprehension with a test begins (the walk stops here) -/
def CompAtT (prog : Program) (w : World) (A : Around) (h₀ : Heap) (L : Addr) (m : Str → Option Value) (env : Env) (ct elt : Expr) (x : Str) (scope : Scope) (cl : List (Str × Addr)) (Fin : Shared → List Value → List (Addr × Obj) → Prop) (xv : Value) (s₁ : Shared) : Prop :=
  LCt.CompSrcT prog w A h₀ L m env ct elt x scope cl Fin xv s₁
theorem listcomp_t {ct elt iter : Expr} {x : Str} {px : Pos} {scope : Scope} {cl : List (Str × Addr)} {pos : Pos} {Q : Value → Shared → Prop} (F₀ : Fr h₀ L s.heap m)
    (hclos : closureFor scope env = pure cl) (hcell : ∀ y ∈ scope.names, y.2 ≠ .cell) (hkind : scope.kind = .function)
    (hnames : ∀ y ∈ scope.names, y.2 = .local → scope.names.lookup y.1 = some .local) (hx : scope.names.lookup x = some .local)
    (h : wpAny (model prog w) A (eval iter env) (CompAtT prog w A h₀ L m env ct elt x scope cl (fun s₂ => LCg.FinE h₀ L m s₂ Q)) E s)
    (hs : ∀ x, foldedSetIterable iter env x = pure x := by intro _; rfl) :
    wpAny (model prog w) A (eval (.ListComp elt [⟨.Name x px, iter, [ct], 0⟩] scope pos) env) Q E s := LCt.ListComp_T F₀ hclos hcell hkind hnames hx h hs
end
theorem GramIn.monoC {P : Params} {news news' : List (Addr × Obj)} {g an : Addr} {cnt : Int} {names : List Str} {ps : List (Int × List Int)} (h : GramIn P news g an cnt names ps) (hs : ∀ a o, (a, o) ∈ news → (∀ v, o.data ≠ .cell v) → (a, o) ∈ news') : GramIn P news' g an cnt names ps := by
  obtain ⟨gd, k, rl, lv, st, bl, off, ow, t, nv, ne, rv, re, ov, oe, wv, we, bv, be, h1, h2, h3, h4, h5, h6, h7, h8, h9, h10, h11, h12, h13, h14⟩ := h
  refine ⟨gd, k, rl, lv, st, bl, off, ow, t, nv, ne, rv, re, ov, oe, wv, we, bv, be, hs _ _ h1 (fun v h => by cases h), hs _ _ h2 (fun v h => by cases h), hs _ _ h3 (fun v h => by cases h), h4, hs _ _ h5 (fun v h => by cases h), h6, ?_, hs _ _ h8 (fun v h => by cases h), h9, hs _ _ h10 (fun v h => by cases h), h11, hs _ _ h12 (fun v h => by cases h), h13, fun j hj => ?_⟩
  · intro i l r e
    obtain ⟨x, xd, tp, kr, tr, tv, te, h1, h2, h3, h4, h5⟩ := h7 i l r e
    exact ⟨x, xd, tp, kr, tr, tv, te, h1, hs _ _ h2 (fun v h => by cases h), hs _ _ h3 (fun v h => by cases h), hs _ _ h4 (fun v h => by cases h), h5⟩
  · obtain ⟨b, its, e, a1, a2, a3⟩ := h14 j hj
    exact ⟨b, its, e, a1, hs _ _ a2 (fun v h => by cases h), a3⟩
theorem PairsIn.monoC {news news' : List (Addr × Obj)} {pv : List Value} {ps : List (Int × List Int)} (h : PairsIn news pv ps) (hs : ∀ a o, (a, o) ∈ news → (∀ v, o.data ≠ .cell v) → (a, o) ∈ news') : PairsIn news' pv ps := by
  refine ⟨h.1, fun i l r e => ?_⟩
  obtain ⟨a, ta, tl, tv, e, e2, h1, h2, h3, h4⟩ := h.2 i l r e
  exact ⟨a, ta, tl, tv, e, e2, h1, hs _ _ h2 (fun v h => by cases h), hs _ _ h3 (fun v h => by cases h), h4⟩
theorem names_facts {a b : Nat} (ha : 1 ≤ a ∧ a ≤ 3) (hb : 1 ≤ b ∧ b ≤ 3) : ∀ i ∈ List.range (namesOf a b).length, ((namesOf a b).any (· == (namesOf a b).getD i (Str.ofString "")) = true ∧ (namesOf a b).idxOf ((namesOf a b).getD i (Str.ofString "")) = i ∧
    Txt.startswith ((namesOf a b).getD i (Str.ofString "")) (Str.ofString "$@") = ((namesOf a b).getD i (Str.ofString "") == Str.ofString "$@1")) :=
  names_all (P := fun ns _ => ∀ i ∈ List.range ns.length, (ns.any (· == ns.getD i (Str.ofString "")) = true ∧ ns.idxOf (ns.getD i (Str.ofString "")) = i ∧ Txt.startswith (ns.getD i (Str.ofString "")) (Str.ofString "$@") = (ns.getD i (Str.ofString "") == Str.ofString "$@1"))) (by decide) ha hb
theorem names_u {a b : Nat} (ha : 1 ≤ a ∧ a ≤ 3) (hb : 1 ≤ b ∧ b ≤ 3) : (namesOf a b).any (· == Str.ofString "u") = false :=
  names_all (P := fun ns _ => ns.any (· == Str.ofString "u") = false) (by decide) ha hb
section
variable {prog : Program} {w : World} {A : Around} {E : Value → Shared → Prop} {s : Shared} {h₀ : Heap} {L : Addr} {news : List (Addr × Obj)}
theorem ne_ints_led {a b : Addr} {xs ys : List Value} {ns : List Int} {n : Nat} {Q : Value → Shared → Prop} (N : News h₀ L s.heap news) (ha : (a, listOf xs.toArray n) ∈ news) (hb : (b, LCg.lst ys) ∈ news) (hi : IntsAre xs ns) (hj : IntsAre ys ns)
    (hu : A.units + 64 < cLine) (h : Q (.bool false) s) : wpAny (model prog w) A (compareOp .NotEq (.ref a) (.ref b)) Q E s :=
  ke_ne_ints (News.isList N ha) ⟨_, (N _ hb).1, rfl, _, rfl⟩ hi hj hu (by simpa using h)
theorem eq_ints_led {a b : Addr} {xs ys : List Value} {ns : List Int} {n k : Nat} {Q : Value → Shared → Prop} (N : News h₀ L s.heap news) (ha : (a, listOf xs.toArray n) ∈ news) (hb : (b, listOf ys.toArray k) ∈ news) (hi : IntsAre xs ns) (hj : IntsAre ys ns)
    (hu : A.units + 64 < cLine) (h : Q (.bool true) s) : wpAny (model prog w) A (compareOp .Eq (.ref a) (.ref b)) Q E s :=
  ke_eq_ints (News.isList N ha) (News.isList N hb) hi hj hu (by simpa using h)
end
theorem rulesN_first {cnt len : Int} {ps : List (Int × List Int)} (h : PsOk cnt len ps) : rulesN ps ps.length cnt = [0] := by
  obtain ⟨⟨r, rest, rfl, hr⟩, _⟩ := h
  unfold rulesN
  rw [List.length_cons, List.range_succ_eq_map, List.filter_cons_of_pos (by simp), List.filter_map]
  have e : List.filter ((fun i => decide (((((cnt, r) :: rest).getD i (0, [])).1) = cnt)) ∘ Nat.succ) (List.range rest.length) = [] := by
    refine List.filter_eq_nil_iff.mpr fun i hi => ?_
    have hi' := List.mem_range.mp hi
    have h1 := hr rest[i] (List.getElem_mem hi')
    have e1 : (((cnt, r) :: rest).getD (i + 1) (0, [])) = rest[i] := by simp [List.getD_eq_getElem?_getD, hi']
    simp only [Function.comp_apply, Nat.succ_eq_add_one, e1, decide_eq_true_eq]
    omega
  rw [e]
  rfl

end Mine
theorem Mine.rows_6 : True := by
  k_with_none
  (k_with "k_mem" => first | with_reducible assumption | exact List.mem_cons_self | (refine' List.mem_cons_of_mem _ ?_; k_mem))
  (k_with "k_all" => first | with_reducible assumption | exact Mine.offL_ne _ _ | exact Mine.allLt_ne (by assumption) | exact Mine.ltAll_ne (by assumption))
  (k_with "k_ne" => (refine neN ?_; (try dsimp only); first | assumption | exact Ne.symm (by assumption) | exact Nat.ne_of_lt (by assumption) | exact Nat.ne_of_gt (by assumption)))
  (k_with "k_room" => ((try simp only [depth_under_make, depth_under_kw, depth_in1, depth_deeper, depth_caller]); (have hrl9 : recursionLimit = 1000 := by rfl); (try dsimp only); omega))
  (k_with "k_units" => ((have hcL9 := cLine_is); (try simp only [units_in1, units_deeper, Around.mark_units, units_caller]); (try dsimp only); omega))
  (k_with "mok" => (all_goals first | (fail_if_success (with_reducible show (_ : Prop))) | (with_reducible show wpAny _ _ _ _ _ _) | (fail_if_success (fail_if_success intro _))))
  (k_with "mc" => (try any_goals ((with_reducible show Fr _ _ _ _); k_asm)); (try any_goals ((with_reducible show (_ : Prop)); (fail_if_success (with_reducible show wpAny _ _ _ _ _ _)); first | k_mem | k_asm | (intro vz8 nz8; k_upd) | ((fail_if_success intro _); first | exact rfl | ((with_reducible show (_ : Nat) < _); first | k_room | k_units) | ((try rw [sizeLine_eq]); (try simp only [List.size_toArray, List.length_append, List.length_cons, List.length_nil, Array.length_toList, List.length_replicate]); omega) | exact News.isList (by k_asm) (by k_mem) | exact News.isTup (by k_asm) (by k_mem) | k_upd))); k_extra "mok")
  (k_with "me" => ((try dsimp only); (try k_sweep)))
  (k_with "ment" => (try any_goals ((with_reducible show Below _ _ _ _); k_asm)); (try any_goals ((with_reducible show Fr _ _ _ _); k_asm)); (try any_goals ((with_reducible show Frag.In _ _); k_asm)); (try any_goals ((with_reducible show News _ _ _ _); k_asm)); (try any_goals ((with_reducible show Top _ _ _ _ _ _); k_asm)); (try any_goals ((with_reducible show (_ : Option _) = _); k_is)); (try any_goals ((with_reducible show codeIn _ _ _ = _); k_is)); (try any_goals ((with_reducible show (_ : Nat) < _); k_room)); (try any_goals ((with_reducible show BindsTo _ _ _ _); first | exact BindsTo.of_eq rfl | exact binds_K (by k_in) rfl (by k_is) rfl rfl rfl | fail "k_enter: no rule for these arguments")))
  (k_with "k_enter" => (refine' code_def ?_ ?_ ?_ ?_ ?_ (by exact rfl) (by first | exact rfl | assumption) (by first | exact rfl | assumption) ?_ ?_ ?_ ?_ ?_ ?_ ?_ ?_ ?_ ?_; k_extra "ment"; (try any_goals ((with_reducible show (_ : Bool) = _); exact rfl)); (try any_goals ((with_reducible show (_ : ScopeKind) = _); exact rfl)); (any_goals exact locs rfl); (any_goals ((with_reducible show ∀ x ∈ Scope.names _, _); decide)); k_extra "mok"; k_whole; intro _ _ _ _ _ _ Bz9 _ _; (try dsimp only); (try k_lift Bz9); (try k_fold)))
  (k_with "k_enter" => (refine' code_defC ?_ ?_ ?_ ?_ ?_ (by exact rfl) (by first | exact rfl | assumption) (by first | exact rfl | assumption) ?_ ?_ ?_ ?_ ?_ ?_ ?_ ?_ ?_ ?_; k_extra "ment"; (try any_goals ((with_reducible show (_ : Bool) = _); exact rfl)); (try any_goals ((with_reducible show (_ : ScopeKind) = _); exact rfl)); (any_goals ((with_reducible show List.Nodup _); decide +kernel)); k_extra "mok"; k_whole; intro _ _ _ _ _ _ _ Nz9 Yz9 Bz9 _ _ lz9; (try k_lt lz9); k_cells Yz9; (try simp only [List.cons_append, List.nil_append] at Nz9); (try dsimp only); (try k_lift Bz9); (try k_fold)))
  (k_with "k_enter" => ((with_reducible refine' Mine.gAt 138 ?_); refine' Mine.take_specU ?_ ?_ ?_ ?_ ?_ ?_ ?_ ?_ ?_ ?_ ?_ ?_ ?_ ?_; k_extra "mc"; intro _ _ _ _ _ _ _ _ _ _ _ _; k_extra "me"))
  (k_with "call builtin:len" => (k_here; (with_reducible show wpAny _ _ (call (Value.builtin "len") [Value.ref _]) _ _ _); k_dflt (first | (refine Mine.len_led (by k_asm) (by k_mem) (by (simp only [List.size_toArray]; omega)) ?_; k_whole; (try simp only [List.size_toArray])) | (refine Mine.lent_led (by k_asm) (by k_mem) (by (simp only [List.size_toArray]; omega)) ?_; k_whole; (try simp only [List.size_toArray])))))
  (k_with "subscriptTail" => (k_here; (with_reducible show wpAny _ _ (subscriptTail _ _ (Value.ref _) (Value.int _ _)) _ _ _); k_dflt (first | (refine Mine.item_led (by k_asm) (by k_mem) (by omega) (by with_reducible assumption) (by omega) ?_; k_whole) | (refine Mine.itemt_led (by k_asm) (by k_mem) (by omega) (by with_reducible assumption) (by omega) ?_; k_whole))))
  (k_with "compareOp In" => (k_here; (with_reducible show wpAny _ _ (compareOp CmpOp.In (Value.str _ _) (Value.ref _)) _ _ _); k_dflt (refine Mine.in_strs (by k_asm) (by k_mem) (by with_reducible assumption) ?_; k_whole)))
  (k_with "call builtin:list.index" => (k_here; (with_reducible show wpAny _ _ (call (Value.builtin _) [Value.ref _, Value.str _ _]) _ _ _); k_dflt (refine Mine.index_strs (by k_asm) (by k_mem) (by with_reducible assumption) (by omega) (by first | assumption | (simp_all; done)) ?_; k_whole)))
  (k_with "call type:list" => (k_here; (with_reducible show wpAny _ _ (call (Value.type _) [Value.ref _]) _ _ _); (with_unfolding_all first | (refine list_copyK (by k_asm) (by k_asm) (by exact News.isList (by k_asm) (by k_mem)) ?_ (by (rw [sizeLine_eq]; simp only [List.size_toArray]; omega)); k_whole) | (refine list_copyKT (by k_asm) (by k_asm) (by exact News.isTup (by k_asm) (by k_mem)) ?_ (by (rw [sizeLine_eq]; simp only [List.size_toArray]; omega)); k_whole)); intro _ _ _ _ _ lz9; (try k_lt lz9); (try k_sweep)))
  (k_with "binaryOp Add ref ref" => (k_here; (with_reducible show wpAny _ _ (binaryOp _ (Value.ref _) (Value.ref _)) _ _ _); k_dflt (refine' Mine.add_led ?_ ?_ ?_ ?_ ?_ ?_; k_extra "mc"); intro _ _ _ _ lz9; (try k_lt lz9); (try k_sweep)))
  (k_with "binaryOp Add str str" => (k_here; (with_reducible show wpAny _ _ (binaryOp _ (Value.str _ _) (Value.str _ _)) _ _ _); k_dflt (refine PyProof.Rows.add_str ?_ (by with_reducible assumption)); intro _ _))
  (k_with "k_enter" => ((with_reducible refine' Mine.gAt 55 ?_); refine' Mine.symbolCount_spec ?_ ?_ ?_ ?_ ?_ ?_ ?_ ?_ ?_ ?_ ?_ ?_ ?_ ?_; k_extra "mc"; intro _ _ _ _ _; k_extra "me"))
  (k_with "k_enter" => ((with_reducible refine' Mine.gAt 62 ?_); refine' Mine.isTerminal_spec ?_ ?_ ?_ ?_ ?_ ?_ ?_ ?_ ?_ ?_ ?_ ?_; k_extra "mc"; intro _ _ _ _; k_extra "me"))
  (k_with "k_enter" => ((with_reducible refine' Mine.gAt 69 ?_); refine' Mine.isMiddle_spec ?_ ?_ ?_ ?_ ?_ ?_ ?_ ?_ ?_ ?_ ?_ ?_ ?_ ?_ ?_ ?_ ?_; k_extra "mc"; intro _ _ _ _; k_extra "me"))
  (k_with "k_enter" => ((with_reducible refine' Mine.gAt 76 ?_); refine' Mine.number_spec ?_ ?_ ?_ ?_ ?_ ?_ ?_ ?_ ?_ ?_ ?_ ?_ ?_ ?_ ?_ ?_; k_extra "mc"; intro _ _ _ _ _ _ _; k_extra "me"))
  (k_with "k_enter" => ((with_reducible refine' Mine.gAt 83 ?_); refine' Mine.rulesOf_spec ?_ ?_ ?_ ?_ ?_ ?_ ?_ ?_ ?_ ?_ ?_ ?_ ?_ ?_ ?_ ?_ ?_ ?_ ?_; k_extra "mc"; intro _ _ _ _ _ _ lz9; (try k_lt lz9); k_extra "me"))
  (k_with "k_enter" => ((with_reducible refine' Mine.gAt 90 ?_); refine' Mine.item_spec ?_ ?_ ?_ ?_ ?_ ?_ ?_ ?_ ?_ ?_ ?_ ?_ ?_ ?_ ?_ ?_; k_extra "mc"; intro _ _ _ _ _; k_extra "me"))
  (k_with "k_enter" => ((with_reducible refine' Mine.gAt 97 ?_); refine' Mine.ruleOf_spec ?_ ?_ ?_ ?_ ?_ ?_ ?_ ?_ ?_ ?_ ?_ ?_ ?_ ?_ ?_ ?_; k_extra "mc"; intro _ _ _ _ _; k_extra "me"))
  (k_with "k_enter" => ((with_reducible refine' Mine.gAt 104 ?_); refine' Mine.dotOf_spec ?_ ?_ ?_ ?_ ?_ ?_ ?_ ?_ ?_ ?_ ?_ ?_ ?_ ?_ ?_ ?_ ?_ ?_ ?_ ?_; k_extra "mc"; intro _ _ _ _ _; k_extra "me"))
  (k_with "k_enter" => ((with_reducible refine' Mine.gAt 111 ?_); refine' Mine.after_spec ?_ ?_ ?_ ?_ ?_ ?_ ?_ ?_ ?_ ?_ ?_ ?_ ?_ ?_ ?_ ?_ ?_ ?_ ?_ ?_ ?_ ?_ ?_ ?_ ?_ ?_ ?_ ?_ ?_; k_extra "mc"; intro _ _ _ _ _ _ _; k_extra "me"))
  (k_with "k_enter" => ((with_reducible refine' Mine.gAt 143 ?_); refine' Mine.lawShown_spec ?_ ?_ ?_ ?_ ?_ ?_ ?_ ?_ ?_ ?_ ?_ ?_ ?_ ?_ ?_ ?_ ?_ ?_ ?_; k_extra "mc"; intro _ _ _ _ _; k_extra "me"))
  (k_with "k_enter" => ((with_reducible refine' Mine.g3 ?_); refine' Mine.showRule_spec ?_ ?_ ?_ ?_ ?_ ?_ ?_ ?_ ?_ ?_ ?_ ?_ ?_ ?_ ?_ ?_ ?_ ?_ ?_ ?_ ?_ ?_ ?_ ?_ ?_ ?_ ?_ ?_; k_extra "mc"; intro _ _ _ _ _; k_extra "me"))
  (k_with "k_enter" => ((with_reducible refine' Mine.g2 ?_); refine' Mine.showRule0_spec ?_ ?_ ?_ ?_ ?_ ?_ ?_ ?_ ?_ ?_ ?_ ?_ ?_ ?_ ?_ ?_ ?_ ?_ ?_ ?_ ?_ ?_ ?_ ?_ ?_ ?_ ?_; k_extra "mc"; intro _ _ _ _ _; k_extra "me"))
  (k_with "k_enter" => ((with_reducible refine' Mine.gAt 131 ?_); refine' Mine.showItem_spec ?_ ?_ ?_ ?_ ?_ ?_ ?_ ?_ ?_ ?_ ?_ ?_ ?_ ?_ ?_ ?_ ?_ ?_ ?_ ?_ ?_ ?_ ?_ ?_ ?_ ?_ ?_ ?_ ?_ ?_ ?_ ?_ ?_ ?_ ?_; k_extra "mc"; intro _ _ _ _ _; k_extra "me"))
  (k_with "exec For Name Attribute cons nil" => (k_here; (with_unfolding_all refine Mine.for_mine (by k_asm) (by exact rfl) (by exact rfl) ?_; k_whole)))
  (k_with "exec For Name Call cons nil" => (k_here; (with_unfolding_all refine Mine.for_mine (by k_asm) (by exact rfl) (by exact rfl) ?_; k_whole)))
  (k_with "call type:range" => (k_here; (with_reducible show wpAny _ _ (call _ [Value.int _ _]) _ _ _); k_dflt (refine range1_rows (by k_asm) (by k_asm) ?_); intro _ _ _ _ _ _ _ _ _; (try k_sweep)))
  (k_with "call builtin:list.append" => (k_here; (with_reducible show wpAny _ _ (call (Value.builtin _) [Value.ref _, _]) _ _ _); k_dflt (refine Mine.append_led (by k_asm) (by k_asm) (by k_upd) (by omega) ?_); intro _ _ _; (try k_sweep)))
  (k_with "call builtin:list.extend" => (k_here; (with_reducible show wpAny _ _ (call (Value.builtin _) [Value.ref _, Value.ref _]) _ _ _); k_dflt (refine Mine.extend_led (by k_asm) (by k_asm) (by k_mem) (by ((try simp only [List.length_replicate]); omega)) (by k_upd) (by omega) (by ((try simp only [List.length_replicate]); omega)) ?_); intro _ _ _; (try k_sweep)))
  (k_with "binaryOp Mult ref int" => (k_here; k_dflt (refine Mine.mul_one_led (by k_asm) (by k_asm) (by k_mem) (by omega) (by omega) ?_); intro _ _ _ _ lz9; (try k_lt lz9); (try k_sweep)))
  (k_with "call type:tuple" => (k_here; (with_reducible show wpAny _ _ (call (Value.type _) [Value.ref _]) _ _ _); k_dflt (refine kde_tupleOf (by k_asm) (by k_asm) (by exact News.isList (by k_asm) (by k_mem)) (by ((try simp only [List.size_toArray]); omega)) (by rfl) ?_; k_whole); intro _ _ _ _ lz9; (try k_lt lz9); (try k_sweep)))
  (k_with "compareOp Eq ref ref" => (k_here; (with_reducible show wpAny _ _ (compareOp CmpOp.Eq (Value.ref _) (Value.ref _)) _ _ _); k_dflt (refine Mine.eq_ints_led (by k_asm) (by k_mem) (by k_mem) (by assumption) (by exact .cons _ _ .nil) (by ke_room) ?_)))
  trivial
namespace Mine
section
variable {w : World} {d u : Nat} {outer : List Env} {gs : Option (List Code)} {L a : Addr} {cd : Value} {h₀ base : Heap} {m : Str → Option Value}
    {mg mb : Str → Option Value} {mean : ExcName → Option Value} {A₀ : Around} {s : Shared} {Q : Flow → Shared → Prop}

theorem law14 {an g : Addr} {nv : List Value} {en : Nat} {na nb : Nat} {c2 c3 : Obj} {cnt : Int} {tc : Tok} {ps : List (Int × List Int)} {nw : List (Addr × Obj)} (B : Below A₀ base outer h₀) (F : Fr h₀ L s.heap m) (X₀ : (Mine.hd.heap_39 w.params).In h₀)
    (T : Top Mine.hd.view_39 (looseW Mine.hd.view_39 [Str.ofString "show_rule"]) mean mg mb h₀) (hd : d < 500) (hu : u < 4000)
    (N : News h₀ L s.heap nw) (hc2 : (L + 1 + 1, c2) ∈ nw) (hc3 : (L + 1 + 1 + 1, c3) ∈ nw)
    (d2 : c2.data = .cell (some (.ref an))) (d3 : c3.data = .cell (some (.int cnt tc)))
    (han : (an, listOf nv.toArray en) ∈ nw) (hnv : StrsAre nv (namesOf na nb)) (hna : 1 ≤ na ∧ na ≤ 3) (hnb : 1 ≤ nb ∧ nb ≤ 3) (hcn : cnt = 3 + (na : Int))
    (hpl : 1 ≤ ps.length ∧ ps.length ≤ 7) (hpo : PsOk cnt (nv.length : Int) ps)
    (hm1 : m (Str.ofString "grammar") = some (.ref g)) (hg : GramIn w.params nw g an cnt (namesOf na nb) ps)
    (hQ : ∀ h' tk' m', Fr h₀ L h' m' → Q (.ret (.bool true)) { s with heap := h', toks := tk' }) :
    RestAt PySem.Challenge.rw_on0156_01.row.prog w ⟨none, d, some (envOfC (Str.ofString "law") (lawS w.params) L a cd :: outer), gs, u⟩ (lawB w.params 14) (envOfC (Str.ofString "law") (lawS w.params) L a cd) Q s := by
  rw [map_known hm1] at F
  have hnl := strs_len hnv
  have hnl2 := namesOf_len hna hnb
  have hg0 := hg
  obtain ⟨gd, k, rl, lv, st, bl, off, ow, t, nv2, ne, rv, re, ov, oe, wv, we, bv, be, h1, h2, h3, h4, h5, h6, h7, h8, h9, h10, h11, h12, h13, h14⟩ := hg
  obtain ⟨rfl, rfl⟩ := listOf_inj (news_one N han h3)
  obtain ⟨b, its, e2, w1, w2, w3⟩ := h14 cnt.toNat (by omega)
  have ec : ((cnt.toNat : Nat) : Int) = cnt := by omega
  rw [ec, rulesN_first hpo] at w3
  have w5 := w3.length
  have w6 : ([0] : List Int).length = 1 := rfl
  have w7 : (Str.ofString "u").length = 1 := by decide
  have w8 := names_u hna hnb
  obtain ⟨S0, hS⟩ : ∃ S, S = lawS w.params := ⟨_, rfl⟩
  obtain ⟨B0, hB⟩ : ∃ S, S = lawB w.params 14 := ⟨_, rfl⟩
  rw [← hS, ← hB]
  revert B F X₀ T
  w_top off
  k_fill
  intro B F X₀ T
  conv at hS => rhs; whnf
  conv at hB => rhs; whnf
  subst hS
  subst hB
  show wpAny _ _ (execs _ _) _ _ _
  k_steps
  · exact hQ _ _ _ (by assumption)
  · exfalso
    rename (_ = ite _ _ _) => hv9
    rw [if_neg (by rw [w8]; exact Bool.false_ne_true)] at hv9
    omega
end

end Mine
theorem Mine.rows_7 : True := by
  k_with_none
  (k_with "k_mem" => first | with_reducible assumption | exact List.mem_cons_self | (refine' List.mem_cons_of_mem _ ?_; k_mem))
  (k_with "k_all" => first | with_reducible assumption | exact Mine.offL_ne _ _ | exact Mine.allLt_ne (by assumption) | exact Mine.ltAll_ne (by assumption))
  (k_with "k_ne" => (refine neN ?_; (try dsimp only); first | assumption | exact Ne.symm (by assumption) | exact Nat.ne_of_lt (by assumption) | exact Nat.ne_of_gt (by assumption)))
  (k_with "k_room" => ((try simp only [depth_under_make, depth_under_kw, depth_in1, depth_deeper, depth_caller]); (have hrl9 : recursionLimit = 1000 := by rfl); (try dsimp only); omega))
  (k_with "k_units" => ((have hcL9 := cLine_is); (try simp only [units_in1, units_deeper, Around.mark_units, units_caller]); (try dsimp only); omega))
  (k_with "mok" => (all_goals first | (fail_if_success (with_reducible show (_ : Prop))) | (with_reducible show wpAny _ _ _ _ _ _) | (fail_if_success (fail_if_success intro _))))
  (k_with "mc" => (try any_goals ((with_reducible show Fr _ _ _ _); k_asm)); (try any_goals ((with_reducible show (_ : Prop)); (fail_if_success (with_reducible show wpAny _ _ _ _ _ _)); first | k_mem | k_asm | (intro vz8 nz8; k_upd) | ((fail_if_success intro _); first | exact rfl | ((with_reducible show (_ : Nat) < _); first | k_room | k_units) | ((try rw [sizeLine_eq]); (try simp only [List.size_toArray, List.length_append, List.length_cons, List.length_nil, Array.length_toList, List.length_replicate]); omega) | exact News.isList (by k_asm) (by k_mem) | exact News.isTup (by k_asm) (by k_mem) | k_upd))); k_extra "mok")
  (k_with "me" => ((try dsimp only); (try k_sweep)))
  (k_with "ment" => (try any_goals ((with_reducible show Below _ _ _ _); k_asm)); (try any_goals ((with_reducible show Fr _ _ _ _); k_asm)); (try any_goals ((with_reducible show Frag.In _ _); k_asm)); (try any_goals ((with_reducible show News _ _ _ _); k_asm)); (try any_goals ((with_reducible show Top _ _ _ _ _ _); k_asm)); (try any_goals ((with_reducible show (_ : Option _) = _); k_is)); (try any_goals ((with_reducible show codeIn _ _ _ = _); k_is)); (try any_goals ((with_reducible show (_ : Nat) < _); k_room)); (try any_goals ((with_reducible show BindsTo _ _ _ _); first | exact BindsTo.of_eq rfl | exact binds_K (by k_in) rfl (by k_is) rfl rfl rfl | fail "k_enter: no rule for these arguments")))
  (k_with "k_enter" => (refine' code_def ?_ ?_ ?_ ?_ ?_ (by exact rfl) (by first | exact rfl | assumption) (by first | exact rfl | assumption) ?_ ?_ ?_ ?_ ?_ ?_ ?_ ?_ ?_ ?_; k_extra "ment"; (try any_goals ((with_reducible show (_ : Bool) = _); exact rfl)); (try any_goals ((with_reducible show (_ : ScopeKind) = _); exact rfl)); (any_goals exact locs rfl); (any_goals ((with_reducible show ∀ x ∈ Scope.names _, _); decide)); k_extra "mok"; k_whole; intro _ _ _ _ _ _ Bz9 _ _; (try dsimp only); (try k_lift Bz9); (try k_fold)))
  (k_with "k_enter" => (refine' code_defC ?_ ?_ ?_ ?_ ?_ (by exact rfl) (by first | exact rfl | assumption) (by first | exact rfl | assumption) ?_ ?_ ?_ ?_ ?_ ?_ ?_ ?_ ?_ ?_; k_extra "ment"; (try any_goals ((with_reducible show (_ : Bool) = _); exact rfl)); (try any_goals ((with_reducible show (_ : ScopeKind) = _); exact rfl)); (any_goals ((with_reducible show List.Nodup _); decide +kernel)); k_extra "mok"; k_whole; intro _ _ _ _ _ _ _ Nz9 Yz9 Bz9 _ _ lz9; (try k_lt lz9); k_cells Yz9; (try simp only [List.cons_append, List.nil_append] at Nz9); (try dsimp only); (try k_lift Bz9); (try k_fold)))
  (k_with "k_enter" => ((with_reducible refine' Mine.gAt 138 ?_); refine' Mine.take_specU ?_ ?_ ?_ ?_ ?_ ?_ ?_ ?_ ?_ ?_ ?_ ?_ ?_ ?_; k_extra "mc"; intro _ _ _ _ _ _ _ _ _ _ _ _; k_extra "me"))
  (k_with "call builtin:len" => (k_here; (with_reducible show wpAny _ _ (call (Value.builtin "len") [Value.ref _]) _ _ _); k_dflt (first | (refine Mine.len_led (by k_asm) (by k_mem) (by (simp only [List.size_toArray]; omega)) ?_; k_whole; (try simp only [List.size_toArray])) | (refine Mine.lent_led (by k_asm) (by k_mem) (by (simp only [List.size_toArray]; omega)) ?_; k_whole; (try simp only [List.size_toArray])))))
  (k_with "subscriptTail" => (k_here; (with_reducible show wpAny _ _ (subscriptTail _ _ (Value.ref _) (Value.int _ _)) _ _ _); k_dflt (first | (refine Mine.item_led (by k_asm) (by k_mem) (by omega) (by with_reducible assumption) (by omega) ?_; k_whole) | (refine Mine.itemt_led (by k_asm) (by k_mem) (by omega) (by with_reducible assumption) (by omega) ?_; k_whole))))
  (k_with "compareOp In" => (k_here; (with_reducible show wpAny _ _ (compareOp CmpOp.In (Value.str _ _) (Value.ref _)) _ _ _); k_dflt (refine Mine.in_strs (by k_asm) (by k_mem) (by with_reducible assumption) ?_; k_whole)))
  (k_with "call builtin:list.index" => (k_here; (with_reducible show wpAny _ _ (call (Value.builtin _) [Value.ref _, Value.str _ _]) _ _ _); k_dflt (refine Mine.index_strs (by k_asm) (by k_mem) (by with_reducible assumption) (by omega) (by first | assumption | (simp_all; done)) ?_; k_whole)))
  (k_with "call type:list" => (k_here; (with_reducible show wpAny _ _ (call (Value.type _) [Value.ref _]) _ _ _); (with_unfolding_all first | (refine list_copyK (by k_asm) (by k_asm) (by exact News.isList (by k_asm) (by k_mem)) ?_ (by (rw [sizeLine_eq]; simp only [List.size_toArray]; omega)); k_whole) | (refine list_copyKT (by k_asm) (by k_asm) (by exact News.isTup (by k_asm) (by k_mem)) ?_ (by (rw [sizeLine_eq]; simp only [List.size_toArray]; omega)); k_whole)); intro _ _ _ _ _ lz9; (try k_lt lz9); (try k_sweep)))
  (k_with "binaryOp Add ref ref" => (k_here; (with_reducible show wpAny _ _ (binaryOp _ (Value.ref _) (Value.ref _)) _ _ _); k_dflt (refine' Mine.add_led ?_ ?_ ?_ ?_ ?_ ?_; k_extra "mc"); intro _ _ _ _ lz9; (try k_lt lz9); (try k_sweep)))
  (k_with "binaryOp Add str str" => (k_here; (with_reducible show wpAny _ _ (binaryOp _ (Value.str _ _) (Value.str _ _)) _ _ _); k_dflt (refine PyProof.Rows.add_str ?_ (by with_reducible assumption)); intro _ _))
  (k_with "k_enter" => ((with_reducible refine' Mine.gAt 55 ?_); refine' Mine.symbolCount_spec ?_ ?_ ?_ ?_ ?_ ?_ ?_ ?_ ?_ ?_ ?_ ?_ ?_ ?_; k_extra "mc"; intro _ _ _ _ _; k_extra "me"))
  (k_with "k_enter" => ((with_reducible refine' Mine.gAt 62 ?_); refine' Mine.isTerminal_spec ?_ ?_ ?_ ?_ ?_ ?_ ?_ ?_ ?_ ?_ ?_ ?_; k_extra "mc"; intro _ _ _ _; k_extra "me"))
  (k_with "k_enter" => ((with_reducible refine' Mine.gAt 69 ?_); refine' Mine.isMiddle_spec ?_ ?_ ?_ ?_ ?_ ?_ ?_ ?_ ?_ ?_ ?_ ?_ ?_ ?_ ?_ ?_ ?_; k_extra "mc"; intro _ _ _ _; k_extra "me"))
  (k_with "k_enter" => ((with_reducible refine' Mine.gAt 76 ?_); refine' Mine.number_spec ?_ ?_ ?_ ?_ ?_ ?_ ?_ ?_ ?_ ?_ ?_ ?_ ?_ ?_ ?_ ?_; k_extra "mc"; intro _ _ _ _ _ _ _; k_extra "me"))
  (k_with "k_enter" => ((with_reducible refine' Mine.gAt 83 ?_); refine' Mine.rulesOf_spec ?_ ?_ ?_ ?_ ?_ ?_ ?_ ?_ ?_ ?_ ?_ ?_ ?_ ?_ ?_ ?_ ?_ ?_ ?_; k_extra "mc"; intro _ _ _ _ _ _ lz9; (try k_lt lz9); k_extra "me"))
  (k_with "k_enter" => ((with_reducible refine' Mine.gAt 90 ?_); refine' Mine.item_spec ?_ ?_ ?_ ?_ ?_ ?_ ?_ ?_ ?_ ?_ ?_ ?_ ?_ ?_ ?_ ?_; k_extra "mc"; intro _ _ _ _ _; k_extra "me"))
  (k_with "k_enter" => ((with_reducible refine' Mine.gAt 97 ?_); refine' Mine.ruleOf_spec ?_ ?_ ?_ ?_ ?_ ?_ ?_ ?_ ?_ ?_ ?_ ?_ ?_ ?_ ?_ ?_; k_extra "mc"; intro _ _ _ _ _; k_extra "me"))
  (k_with "k_enter" => ((with_reducible refine' Mine.gAt 104 ?_); refine' Mine.dotOf_spec ?_ ?_ ?_ ?_ ?_ ?_ ?_ ?_ ?_ ?_ ?_ ?_ ?_ ?_ ?_ ?_ ?_ ?_ ?_ ?_; k_extra "mc"; intro _ _ _ _ _; k_extra "me"))
  (k_with "k_enter" => ((with_reducible refine' Mine.gAt 111 ?_); refine' Mine.after_spec ?_ ?_ ?_ ?_ ?_ ?_ ?_ ?_ ?_ ?_ ?_ ?_ ?_ ?_ ?_ ?_ ?_ ?_ ?_ ?_ ?_ ?_ ?_ ?_ ?_ ?_ ?_ ?_ ?_; k_extra "mc"; intro _ _ _ _ _ _ _; k_extra "me"))
  (k_with "k_enter" => ((with_reducible refine' Mine.gAt 143 ?_); refine' Mine.lawShown_spec ?_ ?_ ?_ ?_ ?_ ?_ ?_ ?_ ?_ ?_ ?_ ?_ ?_ ?_ ?_ ?_ ?_ ?_ ?_; k_extra "mc"; intro _ _ _ _ _; k_extra "me"))
  (k_with "k_enter" => ((with_reducible refine' Mine.g3 ?_); refine' Mine.showRule_spec ?_ ?_ ?_ ?_ ?_ ?_ ?_ ?_ ?_ ?_ ?_ ?_ ?_ ?_ ?_ ?_ ?_ ?_ ?_ ?_ ?_ ?_ ?_ ?_ ?_ ?_ ?_ ?_; k_extra "mc"; intro _ _ _ _ _; k_extra "me"))
  (k_with "k_enter" => ((with_reducible refine' Mine.g2 ?_); refine' Mine.showRule0_spec ?_ ?_ ?_ ?_ ?_ ?_ ?_ ?_ ?_ ?_ ?_ ?_ ?_ ?_ ?_ ?_ ?_ ?_ ?_ ?_ ?_ ?_ ?_ ?_ ?_ ?_ ?_; k_extra "mc"; intro _ _ _ _ _; k_extra "me"))
  (k_with "k_enter" => ((with_reducible refine' Mine.gAt 131 ?_); refine' Mine.showItem_spec ?_ ?_ ?_ ?_ ?_ ?_ ?_ ?_ ?_ ?_ ?_ ?_ ?_ ?_ ?_ ?_ ?_ ?_ ?_ ?_ ?_ ?_ ?_ ?_ ?_ ?_ ?_ ?_ ?_ ?_ ?_ ?_ ?_ ?_ ?_; k_extra "mc"; intro _ _ _ _ _; k_extra "me"))
  (k_with "exec For Name Attribute cons nil" => (k_here; (with_unfolding_all refine Mine.for_mine (by k_asm) (by exact rfl) (by exact rfl) ?_; k_whole)))
  (k_with "exec For Name Call cons nil" => (k_here; (with_unfolding_all refine Mine.for_mine (by k_asm) (by exact rfl) (by exact rfl) ?_; k_whole)))
  (k_with "call type:range" => (k_here; (with_reducible show wpAny _ _ (call _ [Value.int _ _]) _ _ _); k_dflt (refine range1_rows (by k_asm) (by k_asm) ?_); intro _ _ _ _ _ _ _ _ _; (try k_sweep)))
  (k_with "call builtin:list.append" => (k_here; (with_reducible show wpAny _ _ (call (Value.builtin _) [Value.ref _, _]) _ _ _); k_dflt (refine Mine.append_led (by k_asm) (by k_asm) (by k_upd) (by omega) ?_); intro _ _ _; (try k_sweep)))
  (k_with "call builtin:list.extend" => (k_here; (with_reducible show wpAny _ _ (call (Value.builtin _) [Value.ref _, Value.ref _]) _ _ _); k_dflt (refine Mine.extend_led (by k_asm) (by k_asm) (by k_mem) (by ((try simp only [List.length_replicate]); omega)) (by k_upd) (by omega) (by ((try simp only [List.length_replicate]); omega)) ?_); intro _ _ _; (try k_sweep)))
  (k_with "binaryOp Mult ref int" => (k_here; k_dflt (refine Mine.mul_one_led (by k_asm) (by k_asm) (by k_mem) (by omega) (by omega) ?_); intro _ _ _ _ lz9; (try k_lt lz9); (try k_sweep)))
  (k_with "call type:tuple" => (k_here; (with_reducible show wpAny _ _ (call (Value.type _) [Value.ref _]) _ _ _); k_dflt (refine kde_tupleOf (by k_asm) (by k_asm) (by exact News.isList (by k_asm) (by k_mem)) (by ((try simp only [List.size_toArray]); omega)) (by rfl) ?_; k_whole); intro _ _ _ _ lz9; (try k_lt lz9); (try k_sweep)))
  (k_with "k_all" => exact Mine.ltAll_ne (by assumption))
  trivial
namespace Mine
section
variable {w : World} {d u : Nat} {outer : List Env} {gs : Option (List Code)} {L a : Addr} {cd : Value} {h₀ base : Heap} {m : Str → Option Value}
    {mg mb : Str → Option Value} {mean : ExcName → Option Value} {A₀ : Around} {s : Shared} {Q : Flow → Shared → Prop}

theorem law13 {an g : Addr} {nv : List Value} {en : Nat} {na nb : Nat} {c2 c3 : Obj} {cnt : Int} {tc : Tok} {ps : List (Int × List Int)} {nw : List (Addr × Obj)} (B : Below A₀ base outer h₀) (F : Fr h₀ L s.heap m) (X₀ : (Mine.hd.heap_39 w.params).In h₀)
    (T : Top Mine.hd.view_39 (looseW Mine.hd.view_39 [Str.ofString "show_rule"]) mean mg mb h₀) (hd : d < 500) (hu : u < 4000)
    (N : News h₀ L s.heap nw) (hc2 : (L + 1 + 1, c2) ∈ nw) (hc3 : (L + 1 + 1 + 1, c3) ∈ nw)
    (d2 : c2.data = .cell (some (.ref an))) (d3 : c3.data = .cell (some (.int cnt tc)))
    (han : (an, listOf nv.toArray en) ∈ nw) (hnv : StrsAre nv (namesOf na nb)) (hna : 1 ≤ na ∧ na ≤ 3) (hnb : 1 ≤ nb ∧ nb ≤ 3) (hcn : cnt = 3 + (na : Int))
    (hpl : 1 ≤ ps.length ∧ ps.length ≤ 7) (hpo : PsOk cnt (nv.length : Int) ps)
    (hm1 : m (Str.ofString "grammar") = some (.ref g)) (hg : GramIn w.params nw g an cnt (namesOf na nb) ps)
    (hQ : ∀ h' tk' m', Fr h₀ L h' m' → Q (.ret (.bool true)) { s with heap := h', toks := tk' }) :
    RestAt PySem.Challenge.rw_on0156_01.row.prog w ⟨none, d, some (envOfC (Str.ofString "law") (lawS w.params) L a cd :: outer), gs, u⟩ (lawB w.params 13) (envOfC (Str.ofString "law") (lawS w.params) L a cd) Q s := by
  rw [map_known hm1] at F
  have hnl := strs_len hnv
  have hnl2 := namesOf_len hna hnb
  have hg0 := hg
  obtain ⟨gd, k, rl, lv, st, bl, off, ow, t, nv2, ne, rv, re, ov, oe, wv, we, bv, be, h1, h2, h3, h4, h5, h6, h7, h8, h9, h10, h11, h12, h13, h14⟩ := hg
  obtain ⟨rfl, rfl⟩ := listOf_inj (news_one N han h3)
  obtain ⟨b, its, e2, w1, w2, w3⟩ := h14 cnt.toNat (by omega)
  have ec : ((cnt.toNat : Nat) : Int) = cnt := by omega
  rw [ec, rulesN_first hpo] at w3
  have w5 := w3.length
  have w6 : ([0] : List Int).length = 1 := rfl
  have w7 : (Str.ofString "u").length = 1 := by decide
  have w8 := names_u hna hnb
  obtain ⟨S0, hS⟩ : ∃ S, S = lawS w.params := ⟨_, rfl⟩
  obtain ⟨B0, hB⟩ : ∃ S, S = lawB w.params 13 := ⟨_, rfl⟩
  rw [← hS, ← hB]
  revert B F X₀ T
  w_top off
  k_fill
  intro B F X₀ T
  conv at hS => rhs; whnf
  conv at hB => rhs; whnf
  subst hS
  subst hB
  refine execs_one ?_
  k_fold
  k_steps
  rename Fr _ _ _ _ => F9
  rename News _ _ _ _ => N9
  exact law14 B F9 X₀ T hd hu N9 (List.mem_cons_of_mem _ hc2) (List.mem_cons_of_mem _ hc3) d2 d3 (List.mem_cons_of_mem _ han) hnv hna hnb hcn hpl hpo rfl (hg0.mono fun q hq => List.mem_cons_of_mem _ hq) hQ
end

end Mine
theorem Mine.rows_8 : True := by
  k_with_none
  (k_with "k_mem" => first | with_reducible assumption | exact List.mem_cons_self | (refine' List.mem_cons_of_mem _ ?_; k_mem))
  (k_with "k_all" => first | with_reducible assumption | exact Mine.offL_ne _ _ | exact Mine.allLt_ne (by assumption) | exact Mine.ltAll_ne (by assumption))
  (k_with "k_ne" => (refine neN ?_; (try dsimp only); first | assumption | exact Ne.symm (by assumption) | exact Nat.ne_of_lt (by assumption) | exact Nat.ne_of_gt (by assumption)))
  (k_with "k_room" => ((try simp only [depth_under_make, depth_under_kw, depth_in1, depth_deeper, depth_caller]); (have hrl9 : recursionLimit = 1000 := by rfl); (try dsimp only); omega))
  (k_with "k_units" => ((have hcL9 := cLine_is); (try simp only [units_in1, units_deeper, Around.mark_units, units_caller]); (try dsimp only); omega))
  (k_with "mok" => (all_goals first | (fail_if_success (with_reducible show (_ : Prop))) | (with_reducible show wpAny _ _ _ _ _ _) | (fail_if_success (fail_if_success intro _))))
  (k_with "mc" => (try any_goals ((with_reducible show Fr _ _ _ _); k_asm)); (try any_goals ((with_reducible show (_ : Prop)); (fail_if_success (with_reducible show wpAny _ _ _ _ _ _)); first | k_mem | k_asm | (intro vz8 nz8; k_upd) | ((fail_if_success intro _); first | exact rfl | ((with_reducible show (_ : Nat) < _); first | k_room | k_units) | ((try rw [sizeLine_eq]); (try simp only [List.size_toArray, List.length_append, List.length_cons, List.length_nil, Array.length_toList, List.length_replicate]); omega) | exact News.isList (by k_asm) (by k_mem) | exact News.isTup (by k_asm) (by k_mem) | k_upd))); k_extra "mok")
  (k_with "me" => ((try dsimp only); (try k_sweep)))
  (k_with "ment" => (try any_goals ((with_reducible show Below _ _ _ _); k_asm)); (try any_goals ((with_reducible show Fr _ _ _ _); k_asm)); (try any_goals ((with_reducible show Frag.In _ _); k_asm)); (try any_goals ((with_reducible show News _ _ _ _); k_asm)); (try any_goals ((with_reducible show Top _ _ _ _ _ _); k_asm)); (try any_goals ((with_reducible show (_ : Option _) = _); k_is)); (try any_goals ((with_reducible show codeIn _ _ _ = _); k_is)); (try any_goals ((with_reducible show (_ : Nat) < _); k_room)); (try any_goals ((with_reducible show BindsTo _ _ _ _); first | exact BindsTo.of_eq rfl | exact binds_K (by k_in) rfl (by k_is) rfl rfl rfl | fail "k_enter: no rule for these arguments")))
  (k_with "k_enter" => (refine' code_def ?_ ?_ ?_ ?_ ?_ (by exact rfl) (by first | exact rfl | assumption) (by first | exact rfl | assumption) ?_ ?_ ?_ ?_ ?_ ?_ ?_ ?_ ?_ ?_; k_extra "ment"; (try any_goals ((with_reducible show (_ : Bool) = _); exact rfl)); (try any_goals ((with_reducible show (_ : ScopeKind) = _); exact rfl)); (any_goals exact locs rfl); (any_goals ((with_reducible show ∀ x ∈ Scope.names _, _); decide)); k_extra "mok"; k_whole; intro _ _ _ _ _ _ Bz9 _ _; (try dsimp only); (try k_lift Bz9); (try k_fold)))
  (k_with "k_enter" => (refine' code_defC ?_ ?_ ?_ ?_ ?_ (by exact rfl) (by first | exact rfl | assumption) (by first | exact rfl | assumption) ?_ ?_ ?_ ?_ ?_ ?_ ?_ ?_ ?_ ?_; k_extra "ment"; (try any_goals ((with_reducible show (_ : Bool) = _); exact rfl)); (try any_goals ((with_reducible show (_ : ScopeKind) = _); exact rfl)); (any_goals ((with_reducible show List.Nodup _); decide +kernel)); k_extra "mok"; k_whole; intro _ _ _ _ _ _ _ Nz9 Yz9 Bz9 _ _ lz9; (try k_lt lz9); k_cells Yz9; (try simp only [List.cons_append, List.nil_append] at Nz9); (try dsimp only); (try k_lift Bz9); (try k_fold)))
  (k_with "k_enter" => ((with_reducible refine' Mine.gAt 138 ?_); refine' Mine.take_specU ?_ ?_ ?_ ?_ ?_ ?_ ?_ ?_ ?_ ?_ ?_ ?_ ?_ ?_; k_extra "mc"; intro _ _ _ _ _ _ _ _ _ _ _ _; k_extra "me"))
  (k_with "call builtin:len" => (k_here; (with_reducible show wpAny _ _ (call (Value.builtin "len") [Value.ref _]) _ _ _); k_dflt (first | (refine Mine.len_led (by k_asm) (by k_mem) (by (simp only [List.size_toArray]; omega)) ?_; k_whole; (try simp only [List.size_toArray])) | (refine Mine.lent_led (by k_asm) (by k_mem) (by (simp only [List.size_toArray]; omega)) ?_; k_whole; (try simp only [List.size_toArray])))))
  (k_with "subscriptTail" => (k_here; (with_reducible show wpAny _ _ (subscriptTail _ _ (Value.ref _) (Value.int _ _)) _ _ _); k_dflt (first | (refine Mine.item_led (by k_asm) (by k_mem) (by omega) (by with_reducible assumption) (by omega) ?_; k_whole) | (refine Mine.itemt_led (by k_asm) (by k_mem) (by omega) (by with_reducible assumption) (by omega) ?_; k_whole))))
  (k_with "compareOp In" => (k_here; (with_reducible show wpAny _ _ (compareOp CmpOp.In (Value.str _ _) (Value.ref _)) _ _ _); k_dflt (refine Mine.in_strs (by k_asm) (by k_mem) (by with_reducible assumption) ?_; k_whole)))
  (k_with "call builtin:list.index" => (k_here; (with_reducible show wpAny _ _ (call (Value.builtin _) [Value.ref _, Value.str _ _]) _ _ _); k_dflt (refine Mine.index_strs (by k_asm) (by k_mem) (by with_reducible assumption) (by omega) (by first | assumption | (simp_all; done)) ?_; k_whole)))
  (k_with "call type:list" => (k_here; (with_reducible show wpAny _ _ (call (Value.type _) [Value.ref _]) _ _ _); (with_unfolding_all first | (refine list_copyK (by k_asm) (by k_asm) (by exact News.isList (by k_asm) (by k_mem)) ?_ (by (rw [sizeLine_eq]; simp only [List.size_toArray]; omega)); k_whole) | (refine list_copyKT (by k_asm) (by k_asm) (by exact News.isTup (by k_asm) (by k_mem)) ?_ (by (rw [sizeLine_eq]; simp only [List.size_toArray]; omega)); k_whole)); intro _ _ _ _ _ lz9; (try k_lt lz9); (try k_sweep)))
  (k_with "binaryOp Add ref ref" => (k_here; (with_reducible show wpAny _ _ (binaryOp _ (Value.ref _) (Value.ref _)) _ _ _); k_dflt (refine' Mine.add_led ?_ ?_ ?_ ?_ ?_ ?_; k_extra "mc"); intro _ _ _ _ lz9; (try k_lt lz9); (try k_sweep)))
  (k_with "binaryOp Add str str" => (k_here; (with_reducible show wpAny _ _ (binaryOp _ (Value.str _ _) (Value.str _ _)) _ _ _); k_dflt (refine PyProof.Rows.add_str ?_ (by with_reducible assumption)); intro _ _))
  (k_with "k_enter" => ((with_reducible refine' Mine.gAt 55 ?_); refine' Mine.symbolCount_spec ?_ ?_ ?_ ?_ ?_ ?_ ?_ ?_ ?_ ?_ ?_ ?_ ?_ ?_; k_extra "mc"; intro _ _ _ _ _; k_extra "me"))
  (k_with "k_enter" => ((with_reducible refine' Mine.gAt 62 ?_); refine' Mine.isTerminal_spec ?_ ?_ ?_ ?_ ?_ ?_ ?_ ?_ ?_ ?_ ?_ ?_; k_extra "mc"; intro _ _ _ _; k_extra "me"))
  (k_with "k_enter" => ((with_reducible refine' Mine.gAt 69 ?_); refine' Mine.isMiddle_spec ?_ ?_ ?_ ?_ ?_ ?_ ?_ ?_ ?_ ?_ ?_ ?_ ?_ ?_ ?_ ?_ ?_; k_extra "mc"; intro _ _ _ _; k_extra "me"))
  (k_with "k_enter" => ((with_reducible refine' Mine.gAt 76 ?_); refine' Mine.number_spec ?_ ?_ ?_ ?_ ?_ ?_ ?_ ?_ ?_ ?_ ?_ ?_ ?_ ?_ ?_ ?_; k_extra "mc"; intro _ _ _ _ _ _ _; k_extra "me"))
  (k_with "k_enter" => ((with_reducible refine' Mine.gAt 83 ?_); refine' Mine.rulesOf_spec ?_ ?_ ?_ ?_ ?_ ?_ ?_ ?_ ?_ ?_ ?_ ?_ ?_ ?_ ?_ ?_ ?_ ?_ ?_; k_extra "mc"; intro _ _ _ _ _ _ lz9; (try k_lt lz9); k_extra "me"))
  (k_with "k_enter" => ((with_reducible refine' Mine.gAt 90 ?_); refine' Mine.item_spec ?_ ?_ ?_ ?_ ?_ ?_ ?_ ?_ ?_ ?_ ?_ ?_ ?_ ?_ ?_ ?_; k_extra "mc"; intro _ _ _ _ _; k_extra "me"))
  (k_with "k_enter" => ((with_reducible refine' Mine.gAt 97 ?_); refine' Mine.ruleOf_spec ?_ ?_ ?_ ?_ ?_ ?_ ?_ ?_ ?_ ?_ ?_ ?_ ?_ ?_ ?_ ?_; k_extra "mc"; intro _ _ _ _ _; k_extra "me"))
  (k_with "k_enter" => ((with_reducible refine' Mine.gAt 104 ?_); refine' Mine.dotOf_spec ?_ ?_ ?_ ?_ ?_ ?_ ?_ ?_ ?_ ?_ ?_ ?_ ?_ ?_ ?_ ?_ ?_ ?_ ?_ ?_; k_extra "mc"; intro _ _ _ _ _; k_extra "me"))
  (k_with "k_enter" => ((with_reducible refine' Mine.gAt 111 ?_); refine' Mine.after_spec ?_ ?_ ?_ ?_ ?_ ?_ ?_ ?_ ?_ ?_ ?_ ?_ ?_ ?_ ?_ ?_ ?_ ?_ ?_ ?_ ?_ ?_ ?_ ?_ ?_ ?_ ?_ ?_ ?_; k_extra "mc"; intro _ _ _ _ _ _ _; k_extra "me"))
  (k_with "k_enter" => ((with_reducible refine' Mine.gAt 143 ?_); refine' Mine.lawShown_spec ?_ ?_ ?_ ?_ ?_ ?_ ?_ ?_ ?_ ?_ ?_ ?_ ?_ ?_ ?_ ?_ ?_ ?_ ?_; k_extra "mc"; intro _ _ _ _ _; k_extra "me"))
  (k_with "k_enter" => ((with_reducible refine' Mine.g3 ?_); refine' Mine.showRule_spec ?_ ?_ ?_ ?_ ?_ ?_ ?_ ?_ ?_ ?_ ?_ ?_ ?_ ?_ ?_ ?_ ?_ ?_ ?_ ?_ ?_ ?_ ?_ ?_ ?_ ?_ ?_ ?_; k_extra "mc"; intro _ _ _ _ _; k_extra "me"))
  (k_with "k_enter" => ((with_reducible refine' Mine.g2 ?_); refine' Mine.showRule0_spec ?_ ?_ ?_ ?_ ?_ ?_ ?_ ?_ ?_ ?_ ?_ ?_ ?_ ?_ ?_ ?_ ?_ ?_ ?_ ?_ ?_ ?_ ?_ ?_ ?_ ?_ ?_; k_extra "mc"; intro _ _ _ _ _; k_extra "me"))
  (k_with "k_enter" => ((with_reducible refine' Mine.gAt 131 ?_); refine' Mine.showItem_spec ?_ ?_ ?_ ?_ ?_ ?_ ?_ ?_ ?_ ?_ ?_ ?_ ?_ ?_ ?_ ?_ ?_ ?_ ?_ ?_ ?_ ?_ ?_ ?_ ?_ ?_ ?_ ?_ ?_ ?_ ?_ ?_ ?_ ?_ ?_; k_extra "mc"; intro _ _ _ _ _; k_extra "me"))
  (k_with "exec For Name Attribute cons nil" => (k_here; (with_unfolding_all refine Mine.for_mine (by k_asm) (by exact rfl) (by exact rfl) ?_; k_whole)))
  (k_with "exec For Name Call cons nil" => (k_here; (with_unfolding_all refine Mine.for_mine (by k_asm) (by exact rfl) (by exact rfl) ?_; k_whole)))
  (k_with "call type:range" => (k_here; (with_reducible show wpAny _ _ (call _ [Value.int _ _]) _ _ _); k_dflt (refine range1_rows (by k_asm) (by k_asm) ?_); intro _ _ _ _ _ _ _ _ _; (try k_sweep)))
  (k_with "call builtin:list.append" => (k_here; (with_reducible show wpAny _ _ (call (Value.builtin _) [Value.ref _, _]) _ _ _); k_dflt (refine Mine.append_led (by k_asm) (by k_asm) (by k_upd) (by omega) ?_); intro _ _ _; (try k_sweep)))
  (k_with "call builtin:list.extend" => (k_here; (with_reducible show wpAny _ _ (call (Value.builtin _) [Value.ref _, Value.ref _]) _ _ _); k_dflt (refine Mine.extend_led (by k_asm) (by k_asm) (by k_mem) (by ((try simp only [List.length_replicate]); omega)) (by k_upd) (by omega) (by ((try simp only [List.length_replicate]); omega)) ?_); intro _ _ _; (try k_sweep)))
  (k_with "binaryOp Mult ref int" => (k_here; k_dflt (refine Mine.mul_one_led (by k_asm) (by k_asm) (by k_mem) (by omega) (by omega) ?_); intro _ _ _ _ lz9; (try k_lt lz9); (try k_sweep)))
  (k_with "call type:tuple" => (k_here; (with_reducible show wpAny _ _ (call (Value.type _) [Value.ref _]) _ _ _); k_dflt (refine kde_tupleOf (by k_asm) (by k_asm) (by exact News.isList (by k_asm) (by k_mem)) (by ((try simp only [List.size_toArray]); omega)) (by rfl) ?_; k_whole); intro _ _ _ _ lz9; (try k_lt lz9); (try k_sweep)))
  (k_with "compareOp NotEq ref ref" => (k_here; (with_reducible show wpAny _ _ (compareOp CmpOp.NotEq (Value.ref _) (Value.ref _)) _ _ _); k_dflt (refine Mine.ne_ints_led (by k_asm) (by k_mem) (by exact List.mem_cons_self) (by assumption) (by assumption) (by ke_room) ?_)))
  (k_with "eval ListComp" => (k_here; k_dflt (refine Mine.listcomp_t (by k_asm) (by rfl) (by decide) (by rfl) (by decide) (by rfl) ?_)))
  (k_with "k_all" => exact Mine.allLt_ne (by repeat (first | assumption | (rename (_ ∧ _) => hcj9; cases hcj9))))
  trivial
namespace Mine
section
variable {w : World} {d u : Nat} {outer : List Env} {gs : Option (List Code)} {L a : Addr} {cd : Value} {h₀ base : Heap} {m : Str → Option Value}
    {mg mb : Str → Option Value} {mean : ExcName → Option Value} {A₀ : Around} {s : Shared} {Q : Flow → Shared → Prop}

theorem law12 {an pr g : Addr} {nv pv : List Value} {en e : Nat} {na nb : Nat} {c2 c3 c4 c5 : Obj} {cnt : Int} {tc : Tok} {ps : List (Int × List Int)} {nw : List (Addr × Obj)} (B : Below A₀ base outer h₀) (F : Fr h₀ L s.heap m) (X₀ : (Mine.hd.heap_39 w.params).In h₀)
    (T : Top Mine.hd.view_39 (looseW Mine.hd.view_39 [Str.ofString "show_rule"]) mean mg mb h₀) (hd : d < 500) (hu : u < 4000)
    (N : News h₀ L s.heap nw) (hc2 : (L + 1 + 1, c2) ∈ nw) (hc3 : (L + 1 + 1 + 1, c3) ∈ nw) (hc4 : (L + 1 + 1 + 1 + 1, c4) ∈ nw) (hc5 : (L + 1 + 1 + 1 + 1 + 1, c5) ∈ nw)
    (d2 : c2.data = .cell (some (.ref an))) (d3 : c3.data = .cell (some (.int cnt tc))) (d4 : c4.data = .cell (some (.ref pr))) (d5 : c5.data = .cell none)
    (han : (an, listOf nv.toArray en) ∈ nw) (hnv : StrsAre nv (namesOf na nb)) (hna : 1 ≤ na ∧ na ≤ 3) (hnb : 1 ≤ nb ∧ nb ≤ 3) (hcn : cnt = 3 + (na : Int))
    (hpr : (pr, listOf pv.toArray e) ∈ nw) (hps : PairsIn nw pv ps) (hpl : 1 ≤ ps.length ∧ ps.length ≤ 7) (hpo : PsOk cnt (nv.length : Int) ps)
    (hm1 : m (Str.ofString "grammar") = some (.ref g)) (hg : GramIn w.params nw g an cnt (namesOf na nb) ps)
    (hQ : ∀ h' tk' m', Fr h₀ L h' m' → Q (.ret (.bool true)) { s with heap := h', toks := tk' }) :
    RestAt PySem.Challenge.rw_on0156_01.row.prog w ⟨none, d, some (envOfC (Str.ofString "law") (lawS w.params) L a cd :: outer), gs, u⟩ (lawB w.params 12) (envOfC (Str.ofString "law") (lawS w.params) L a cd) Q s := by
  rw [map_known hm1] at F
  have hpl9 := hps.1
  have hnl := strs_len hnv
  have hnl2 := namesOf_len hna hnb
  have mv : ∀ b o, (b, o) ∈ nw → (∀ v, o.data ≠ .cell v) → (b, o) ∈ offL (L + 1 + 1 + 1 + 1 + 1) nw := fun b o hb hv => by
    refine offL_mem hb fun q => ?_
    rw [q] at hb
    have h1 := news_one N hb hc5
    exact hv _ (h1 ▸ d5)
  have kc2 : (L + 1 + 1, c2) ∈ offL (L + 1 + 1 + 1 + 1 + 1) nw := offL_mem hc2 (Nat.ne_of_lt (by omega))
  have kc3 : (L + 1 + 1 + 1, c3) ∈ offL (L + 1 + 1 + 1 + 1 + 1) nw := offL_mem hc3 (Nat.ne_of_lt (by omega))
  have kc4 : (L + 1 + 1 + 1 + 1, c4) ∈ offL (L + 1 + 1 + 1 + 1 + 1) nw := offL_mem hc4 (Nat.ne_of_lt (by omega))
  have kan := mv _ _ han (fun v h => by cases h)
  have kpr := mv _ _ hpr (fun v h => by cases h)
  have kps := hps.monoC mv
  have kg := hg.monoC mv
  obtain ⟨S0, hS⟩ : ∃ S, S = lawS w.params := ⟨_, rfl⟩
  obtain ⟨B0, hB⟩ : ∃ S, S = lawB w.params 12 := ⟨_, rfl⟩
  rw [← hS, ← hB]
  revert B F X₀ T
  w_top off
  k_fill
  intro B F X₀ T
  conv at hS => rhs; whnf
  conv at hB => rhs; whnf
  subst hS
  subst hB
  refine execs_one ?_
  refine for_cell (h₀ := h₀) (m := fun y => if y = Str.ofString "grammar" then some (.ref g) else m y) (c := L + 1 + 1 + 1 + 1 + 1) (n := nv.length) (fun i nw' => ∀ q ∈ offL (L + 1 + 1 + 1 + 1 + 1) nw, q ∈ nw') rfl (by rfl) (by rfl) (by rfl) (by omega) ?_ ?_ ?_
  · k_fold
    k_steps
    rename IsRange _ _ _ _ _ _ _ _ => R9
    rename Fr _ _ _ _ => F9
    rename News _ _ _ _ => N9
    exact ⟨_, _, _, _, _, _, _, rfl, rfl, R9, F9, N9, c5, _, offL (L + 1 + 1 + 1 + 1 + 1) nw, fun q hq => (List.mem_cons.mp hq).elim (fun e => e ▸ hc5) (fun h => offL_sub q h), d5, offL_ne _ _, fun q hq => hq⟩
  · rintro i o oI fam h5 tk5 t5 I hi f1 hd5 F' N' off'
    change Fr h₀ L _ _ at F'
    change News h₀ L _ _ at N'
    obtain ⟨gd, k, rl, lv, st, bl, off, ow, t, nv2, ne, rv, re, ov, oe, wv, we, bv, be, h1, h2, h3, h4, h5, h6, h7, h8, h9, h10, h11, h12, h13, h14⟩ := kg
    obtain ⟨rfl, rfl⟩ := listOf_inj (news_one N han (offL_sub _ h3))
    obtain ⟨b, its, e2, w1, w2, w3⟩ := h14 i (by omega)
    have w1' : bv[((i : Nat) : Int).toNat]? = some (.ref b) := w1
    have w4 := rulesN_le ps ps.length ((i : Nat) : Int)
    have w5 := w3.length
    obtain ⟨x, hx⟩ : ∃ x, (namesOf na nb)[i]? = some x := ⟨_, List.getElem?_eq_getElem (by omega)⟩
    have hx0 : (namesOf na nb).getD i (Str.ofString "") = x := by rw [List.getD_eq_getElem?_getD, hx]; rfl
    obtain ⟨tx, hx2⟩ := strs_get hnv hx
    have hx2' : nv[((i : Nat) : Int).toNat]? = some (.str x tx) := hx2
    have hxl : x.length ≤ 20 := names_len hna hnb x (List.mem_of_getElem? hx)
    obtain ⟨y1, y2, y3⟩ := names_facts hna hnb i (List.mem_range.mpr (by omega))
    rw [hx0] at y1 y2 y3
    replace kc2 := f1 _ kc2
    replace kc3 := f1 _ kc3
    replace kc4 := f1 _ kc4
    replace kan := f1 _ kan
    replace kpr := f1 _ kpr
    replace h1 := f1 _ h1
    replace h2 := f1 _ h2
    replace h3 := f1 _ h3
    replace h12 := f1 _ h12
    replace w2 := f1 _ w2
    clear N F hps hg h14 h7
    k_steps
    rename IsRange _ _ _ _ _ _ _ _ => R9
    rename Fr _ _ _ _ => F9
    rename News _ _ _ _ => N9
    unfold CompAtT
    refine LCt.CompSrcT.range (n := pv.length) rfl F9 N9 R9 (small_one (by omega) (by omega) (by omega) (by omega)) (range_size _) (by rw [sizeLine_eq]; omega) ?_
    intro g8
    refine rest_ind_t (fun j ys nw' => (∀ q ∈ _, q ∈ nw') ∧ IntsAre ys (rulesN ps j ((i : Nat) : Int))) ?_ ?_ _ 0 [] _ (Nat.zero_add _) ⟨fun q hq => hq, .nil⟩
    · rintro j ys famj v I2 oI2 C oC D m₂ h' tk' E' hj ⟨f2, f3⟩ ⟨t9, rfl⟩ hC hx F' N' off' ne'
      obtain ⟨oe1, oe2, oe3⟩ := ne'
      rw [Int.zero_add] at hx
      obtain ⟨l, r, hlr⟩ : ∃ l r, ps[j]? = some (l, r) := by
        have : j < ps.length := by omega
        exact ⟨ps[j].1, ps[j].2, by simp [this]⟩
      obtain ⟨a9, ta, tl, tv, e7, e8, g1, g2, g3, g4⟩ := kps.2 j l r hlr
      have g1' : pv[((j : Nat) : Int).toNat]? = some (.ref a9) := g1
      have f4 : ∀ q ∈ fam, q ∈ famj := fun q hq => f2 q (by repeat (first | exact hq | apply List.mem_cons_of_mem))
      have f5 : (L + 1 + 1 + 1 + 1 + 1, o) ∈ famj := f2 _ (by simp)
      replace kc4 := f4 _ kc4
      replace kpr := f4 _ kpr
      replace g2 := f4 _ (f1 _ g2)
      clear F9 N9 R9
      have hgd : (ps.getD j (0, [])).1 = l := by rw [List.getD_eq_getElem?_getD, hlr]; rfl
      k_steps
      · rename Fr _ _ _ _ => F8
        rename News _ _ _ _ => N8
        exact LCg.CompEnd.intro F8 N8 famj (fun q hq => hq) off' trivial ⟨f2, by rw [rulesN_succ, if_pos (hgd.trans (by assumption))]; exact ints_append f3 (.cons _ _ .nil)⟩
      · rename Fr _ _ _ _ => F8
        rename News _ _ _ _ => N8
        exact LCg.CompEnd.intro F8 N8 famj (fun q hq => hq) off' trivial ⟨f2, by rw [rulesN_succ, if_neg (fun q => absurd (hgd.symm.trans q) (by assumption)), List.append_nil]; exact f3⟩
    · rintro ys famj ⟨f2, f3⟩
      walk_at "FinE"
      have f4 : ∀ q ∈ fam, q ∈ famj := fun q hq => f2 q (by repeat (first | exact hq | apply List.mem_cons_of_mem))
      have f5 : (L + 1 + 1 + 1 + 1 + 1, o) ∈ famj := f2 _ (by simp)
      have f6 := f2 _ List.mem_cons_self
      have f7 : (I, oI) ∈ famj := f2 _ (by simp)
      replace kc2 := f4 _ kc2
      replace kc3 := f4 _ kc3
      replace kan := f4 _ kan
      replace h1 := f4 _ h1
      replace h2 := f4 _ h2
      replace h3 := f4 _ h3
      replace h12 := f4 _ h12
      clear F9 N9 R9
      rw [hpl9] at f3
      k_steps
      all_goals first
        | (rename ((_ != _) = true) => q9; exfalso; (try rw [y3] at q9); simp at q9; done)
        | (exfalso; rename (_ = ite _ _ _) => hv9; rw [if_pos y1, y2] at hv9; omega)
        | skip
      rename Fr _ _ _ _ => F9
      rename News _ _ _ _ => N9
      exact ⟨_, _, fam, rfl, F9, fun q hq => N9 q (List.mem_cons_of_mem _ ((List.mem_cons.mp hq).elim (fun e => e ▸ f7) fun h => (List.mem_cons.mp h).elim (fun e => e ▸ f5) (f4 q))), off', f1⟩
  · rintro h5 tk5 o vo fam f1 hdo F' N'
    refine ⟨rfl, ?_⟩
    exact law13 B F' X₀ T hd hu N' (List.mem_cons_of_mem _ (f1 _ kc2)) (List.mem_cons_of_mem _ (f1 _ kc3)) d2 d3 (List.mem_cons_of_mem _ (f1 _ kan)) hnv hna hnb hcn hpl hpo rfl (kg.mono fun q hq => List.mem_cons_of_mem _ (f1 q hq)) hQ
end

end Mine
theorem Mine.rows_9 : True := by
  k_with_none
  (k_with "k_mem" => first | with_reducible assumption | exact List.mem_cons_self | (refine' List.mem_cons_of_mem _ ?_; k_mem))
  (k_with "k_all" => first | with_reducible assumption | exact Mine.offL_ne _ _ | exact Mine.allLt_ne (by assumption) | exact Mine.ltAll_ne (by assumption))
  (k_with "k_ne" => (refine neN ?_; (try dsimp only); first | assumption | exact Ne.symm (by assumption) | exact Nat.ne_of_lt (by assumption) | exact Nat.ne_of_gt (by assumption)))
  (k_with "k_room" => ((try simp only [depth_under_make, depth_under_kw, depth_in1, depth_deeper, depth_caller]); (have hrl9 : recursionLimit = 1000 := by rfl); (try dsimp only); omega))
  (k_with "k_units" => ((have hcL9 := cLine_is); (try simp only [units_in1, units_deeper, Around.mark_units, units_caller]); (try dsimp only); omega))
  (k_with "mok" => (all_goals first | (fail_if_success (with_reducible show (_ : Prop))) | (with_reducible show wpAny _ _ _ _ _ _) | (fail_if_success (fail_if_success intro _))))
  (k_with "mc" => (try any_goals ((with_reducible show Fr _ _ _ _); k_asm)); (try any_goals ((with_reducible show (_ : Prop)); (fail_if_success (with_reducible show wpAny _ _ _ _ _ _)); first | k_mem | k_asm | (intro vz8 nz8; k_upd) | ((fail_if_success intro _); first | exact rfl | ((with_reducible show (_ : Nat) < _); first | k_room | k_units) | ((try rw [sizeLine_eq]); (try simp only [List.size_toArray, List.length_append, List.length_cons, List.length_nil, Array.length_toList, List.length_replicate]); omega) | exact News.isList (by k_asm) (by k_mem) | exact News.isTup (by k_asm) (by k_mem) | k_upd))); k_extra "mok")
  (k_with "me" => ((try dsimp only); (try k_sweep)))
  (k_with "ment" => (try any_goals ((with_reducible show Below _ _ _ _); k_asm)); (try any_goals ((with_reducible show Fr _ _ _ _); k_asm)); (try any_goals ((with_reducible show Frag.In _ _); k_asm)); (try any_goals ((with_reducible show News _ _ _ _); k_asm)); (try any_goals ((with_reducible show Top _ _ _ _ _ _); k_asm)); (try any_goals ((with_reducible show (_ : Option _) = _); k_is)); (try any_goals ((with_reducible show codeIn _ _ _ = _); k_is)); (try any_goals ((with_reducible show (_ : Nat) < _); k_room)); (try any_goals ((with_reducible show BindsTo _ _ _ _); first | exact BindsTo.of_eq rfl | exact binds_K (by k_in) rfl (by k_is) rfl rfl rfl | fail "k_enter: no rule for these arguments")))
  (k_with "k_enter" => (refine' code_def ?_ ?_ ?_ ?_ ?_ (by exact rfl) (by first | exact rfl | assumption) (by first | exact rfl | assumption) ?_ ?_ ?_ ?_ ?_ ?_ ?_ ?_ ?_ ?_; k_extra "ment"; (try any_goals ((with_reducible show (_ : Bool) = _); exact rfl)); (try any_goals ((with_reducible show (_ : ScopeKind) = _); exact rfl)); (any_goals exact locs rfl); (any_goals ((with_reducible show ∀ x ∈ Scope.names _, _); decide)); k_extra "mok"; k_whole; intro _ _ _ _ _ _ Bz9 _ _; (try dsimp only); (try k_lift Bz9); (try k_fold)))
  (k_with "k_enter" => (refine' code_defC ?_ ?_ ?_ ?_ ?_ (by exact rfl) (by first | exact rfl | assumption) (by first | exact rfl | assumption) ?_ ?_ ?_ ?_ ?_ ?_ ?_ ?_ ?_ ?_; k_extra "ment"; (try any_goals ((with_reducible show (_ : Bool) = _); exact rfl)); (try any_goals ((with_reducible show (_ : ScopeKind) = _); exact rfl)); (any_goals ((with_reducible show List.Nodup _); decide +kernel)); k_extra "mok"; k_whole; intro _ _ _ _ _ _ _ Nz9 Yz9 Bz9 _ _ lz9; (try k_lt lz9); k_cells Yz9; (try simp only [List.cons_append, List.nil_append] at Nz9); (try dsimp only); (try k_lift Bz9); (try k_fold)))
  (k_with "k_enter" => ((with_reducible refine' Mine.gAt 138 ?_); refine' Mine.take_specU ?_ ?_ ?_ ?_ ?_ ?_ ?_ ?_ ?_ ?_ ?_ ?_ ?_ ?_; k_extra "mc"; intro _ _ _ _ _ _ _ _ _ _ _ _; k_extra "me"))
  (k_with "call builtin:len" => (k_here; (with_reducible show wpAny _ _ (call (Value.builtin "len") [Value.ref _]) _ _ _); k_dflt (first | (refine Mine.len_led (by k_asm) (by k_mem) (by (simp only [List.size_toArray]; omega)) ?_; k_whole; (try simp only [List.size_toArray])) | (refine Mine.lent_led (by k_asm) (by k_mem) (by (simp only [List.size_toArray]; omega)) ?_; k_whole; (try simp only [List.size_toArray])))))
  (k_with "subscriptTail" => (k_here; (with_reducible show wpAny _ _ (subscriptTail _ _ (Value.ref _) (Value.int _ _)) _ _ _); k_dflt (first | (refine Mine.item_led (by k_asm) (by k_mem) (by omega) (by with_reducible assumption) (by omega) ?_; k_whole) | (refine Mine.itemt_led (by k_asm) (by k_mem) (by omega) (by with_reducible assumption) (by omega) ?_; k_whole))))
  (k_with "compareOp In" => (k_here; (with_reducible show wpAny _ _ (compareOp CmpOp.In (Value.str _ _) (Value.ref _)) _ _ _); k_dflt (refine Mine.in_strs (by k_asm) (by k_mem) (by with_reducible assumption) ?_; k_whole)))
  (k_with "call builtin:list.index" => (k_here; (with_reducible show wpAny _ _ (call (Value.builtin _) [Value.ref _, Value.str _ _]) _ _ _); k_dflt (refine Mine.index_strs (by k_asm) (by k_mem) (by with_reducible assumption) (by omega) (by first | assumption | (simp_all; done)) ?_; k_whole)))
  (k_with "call type:list" => (k_here; (with_reducible show wpAny _ _ (call (Value.type _) [Value.ref _]) _ _ _); (with_unfolding_all first | (refine list_copyK (by k_asm) (by k_asm) (by exact News.isList (by k_asm) (by k_mem)) ?_ (by (rw [sizeLine_eq]; simp only [List.size_toArray]; omega)); k_whole) | (refine list_copyKT (by k_asm) (by k_asm) (by exact News.isTup (by k_asm) (by k_mem)) ?_ (by (rw [sizeLine_eq]; simp only [List.size_toArray]; omega)); k_whole)); intro _ _ _ _ _ lz9; (try k_lt lz9); (try k_sweep)))
  (k_with "binaryOp Add ref ref" => (k_here; (with_reducible show wpAny _ _ (binaryOp _ (Value.ref _) (Value.ref _)) _ _ _); k_dflt (refine' Mine.add_led ?_ ?_ ?_ ?_ ?_ ?_; k_extra "mc"); intro _ _ _ _ lz9; (try k_lt lz9); (try k_sweep)))
  (k_with "binaryOp Add str str" => (k_here; (with_reducible show wpAny _ _ (binaryOp _ (Value.str _ _) (Value.str _ _)) _ _ _); k_dflt (refine PyProof.Rows.add_str ?_ (by with_reducible assumption)); intro _ _))
  (k_with "k_enter" => ((with_reducible refine' Mine.gAt 55 ?_); refine' Mine.symbolCount_spec ?_ ?_ ?_ ?_ ?_ ?_ ?_ ?_ ?_ ?_ ?_ ?_ ?_ ?_; k_extra "mc"; intro _ _ _ _ _; k_extra "me"))
  (k_with "k_enter" => ((with_reducible refine' Mine.gAt 62 ?_); refine' Mine.isTerminal_spec ?_ ?_ ?_ ?_ ?_ ?_ ?_ ?_ ?_ ?_ ?_ ?_; k_extra "mc"; intro _ _ _ _; k_extra "me"))
  (k_with "k_enter" => ((with_reducible refine' Mine.gAt 69 ?_); refine' Mine.isMiddle_spec ?_ ?_ ?_ ?_ ?_ ?_ ?_ ?_ ?_ ?_ ?_ ?_ ?_ ?_ ?_ ?_ ?_; k_extra "mc"; intro _ _ _ _; k_extra "me"))
  (k_with "k_enter" => ((with_reducible refine' Mine.gAt 76 ?_); refine' Mine.number_spec ?_ ?_ ?_ ?_ ?_ ?_ ?_ ?_ ?_ ?_ ?_ ?_ ?_ ?_ ?_ ?_; k_extra "mc"; intro _ _ _ _ _ _ _; k_extra "me"))
  (k_with "k_enter" => ((with_reducible refine' Mine.gAt 83 ?_); refine' Mine.rulesOf_spec ?_ ?_ ?_ ?_ ?_ ?_ ?_ ?_ ?_ ?_ ?_ ?_ ?_ ?_ ?_ ?_ ?_ ?_ ?_; k_extra "mc"; intro _ _ _ _ _ _ lz9; (try k_lt lz9); k_extra "me"))
  (k_with "k_enter" => ((with_reducible refine' Mine.gAt 90 ?_); refine' Mine.item_spec ?_ ?_ ?_ ?_ ?_ ?_ ?_ ?_ ?_ ?_ ?_ ?_ ?_ ?_ ?_ ?_; k_extra "mc"; intro _ _ _ _ _; k_extra "me"))
  (k_with "k_enter" => ((with_reducible refine' Mine.gAt 97 ?_); refine' Mine.ruleOf_spec ?_ ?_ ?_ ?_ ?_ ?_ ?_ ?_ ?_ ?_ ?_ ?_ ?_ ?_ ?_ ?_; k_extra "mc"; intro _ _ _ _ _; k_extra "me"))
  (k_with "k_enter" => ((with_reducible refine' Mine.gAt 104 ?_); refine' Mine.dotOf_spec ?_ ?_ ?_ ?_ ?_ ?_ ?_ ?_ ?_ ?_ ?_ ?_ ?_ ?_ ?_ ?_ ?_ ?_ ?_ ?_; k_extra "mc"; intro _ _ _ _ _; k_extra "me"))
  (k_with "k_enter" => ((with_reducible refine' Mine.gAt 111 ?_); refine' Mine.after_spec ?_ ?_ ?_ ?_ ?_ ?_ ?_ ?_ ?_ ?_ ?_ ?_ ?_ ?_ ?_ ?_ ?_ ?_ ?_ ?_ ?_ ?_ ?_ ?_ ?_ ?_ ?_ ?_ ?_; k_extra "mc"; intro _ _ _ _ _ _ _; k_extra "me"))
  (k_with "k_enter" => ((with_reducible refine' Mine.gAt 143 ?_); refine' Mine.lawShown_spec ?_ ?_ ?_ ?_ ?_ ?_ ?_ ?_ ?_ ?_ ?_ ?_ ?_ ?_ ?_ ?_ ?_ ?_ ?_; k_extra "mc"; intro _ _ _ _ _; k_extra "me"))
  (k_with "k_enter" => ((with_reducible refine' Mine.g3 ?_); refine' Mine.showRule_spec ?_ ?_ ?_ ?_ ?_ ?_ ?_ ?_ ?_ ?_ ?_ ?_ ?_ ?_ ?_ ?_ ?_ ?_ ?_ ?_ ?_ ?_ ?_ ?_ ?_ ?_ ?_ ?_; k_extra "mc"; intro _ _ _ _ _; k_extra "me"))
  (k_with "k_enter" => ((with_reducible refine' Mine.g2 ?_); refine' Mine.showRule0_spec ?_ ?_ ?_ ?_ ?_ ?_ ?_ ?_ ?_ ?_ ?_ ?_ ?_ ?_ ?_ ?_ ?_ ?_ ?_ ?_ ?_ ?_ ?_ ?_ ?_ ?_ ?_; k_extra "mc"; intro _ _ _ _ _; k_extra "me"))
  (k_with "k_enter" => ((with_reducible refine' Mine.gAt 131 ?_); refine' Mine.showItem_spec ?_ ?_ ?_ ?_ ?_ ?_ ?_ ?_ ?_ ?_ ?_ ?_ ?_ ?_ ?_ ?_ ?_ ?_ ?_ ?_ ?_ ?_ ?_ ?_ ?_ ?_ ?_ ?_ ?_ ?_ ?_ ?_ ?_ ?_ ?_; k_extra "mc"; intro _ _ _ _ _; k_extra "me"))
  (k_with "exec For Name Attribute cons nil" => (k_here; (with_unfolding_all refine Mine.for_mine (by k_asm) (by exact rfl) (by exact rfl) ?_; k_whole)))
  (k_with "exec For Name Call cons nil" => (k_here; (with_unfolding_all refine Mine.for_mine (by k_asm) (by exact rfl) (by exact rfl) ?_; k_whole)))
  (k_with "call type:range" => (k_here; (with_reducible show wpAny _ _ (call _ [Value.int _ _]) _ _ _); k_dflt (refine range1_rows (by k_asm) (by k_asm) ?_); intro _ _ _ _ _ _ _ _ _; (try k_sweep)))
  (k_with "call builtin:list.append" => (k_here; (with_reducible show wpAny _ _ (call (Value.builtin _) [Value.ref _, _]) _ _ _); k_dflt (refine Mine.append_led (by k_asm) (by k_asm) (by k_upd) (by omega) ?_); intro _ _ _; (try k_sweep)))
  (k_with "call builtin:list.extend" => (k_here; (with_reducible show wpAny _ _ (call (Value.builtin _) [Value.ref _, Value.ref _]) _ _ _); k_dflt (refine Mine.extend_led (by k_asm) (by k_asm) (by k_mem) (by ((try simp only [List.length_replicate]); omega)) (by k_upd) (by omega) (by ((try simp only [List.length_replicate]); omega)) ?_); intro _ _ _; (try k_sweep)))
  (k_with "binaryOp Mult ref int" => (k_here; k_dflt (refine Mine.mul_one_led (by k_asm) (by k_asm) (by k_mem) (by omega) (by omega) ?_); intro _ _ _ _ lz9; (try k_lt lz9); (try k_sweep)))
  (k_with "call type:tuple" => (k_here; (with_reducible show wpAny _ _ (call (Value.type _) [Value.ref _]) _ _ _); k_dflt (refine kde_tupleOf (by k_asm) (by k_asm) (by exact News.isList (by k_asm) (by k_mem)) (by ((try simp only [List.size_toArray]); omega)) (by rfl) ?_; k_whole); intro _ _ _ _ lz9; (try k_lt lz9); (try k_sweep)))
  trivial
namespace Mine
section
variable {w : World} {d u : Nat} {outer : List Env} {gs : Option (List Code)} {L a : Addr} {cd : Value} {h₀ base : Heap} {m : Str → Option Value}
    {mg mb : Str → Option Value} {mean : ExcName → Option Value} {A₀ : Around} {s : Shared} {Q : Flow → Shared → Prop}

theorem law11 {an pr g dr : Addr} {nv pv dv : List Value} {en e de : Nat} {na nb : Nat} {c2 c3 c4 c5 : Obj} {cnt : Int} {tc : Tok} {ps : List (Int × List Int)} {nw : List (Addr × Obj)} (B : Below A₀ base outer h₀) (F : Fr h₀ L s.heap m) (X₀ : (Mine.hd.heap_39 w.params).In h₀)
    (T : Top Mine.hd.view_39 (looseW Mine.hd.view_39 [Str.ofString "show_rule"]) mean mg mb h₀) (hd : d < 500) (hu : u < 4000)
    (N : News h₀ L s.heap nw) (hc2 : (L + 1 + 1, c2) ∈ nw) (hc3 : (L + 1 + 1 + 1, c3) ∈ nw) (hc4 : (L + 1 + 1 + 1 + 1, c4) ∈ nw) (hc5 : (L + 1 + 1 + 1 + 1 + 1, c5) ∈ nw)
    (d2 : c2.data = .cell (some (.ref an))) (d3 : c3.data = .cell (some (.int cnt tc))) (d4 : c4.data = .cell (some (.ref pr))) (d5 : c5.data = .cell none)
    (han : (an, listOf nv.toArray en) ∈ nw) (hnv : StrsAre nv (namesOf na nb)) (hna : 1 ≤ na ∧ na ≤ 3) (hnb : 1 ≤ nb ∧ nb ≤ 3) (hcn : cnt = 3 + (na : Int))
    (hpr : (pr, listOf pv.toArray e) ∈ nw) (hps : PairsIn nw pv ps) (hpl : 1 ≤ ps.length ∧ ps.length ≤ 7) (hpo : PsOk cnt (nv.length : Int) ps)
    (hm1 : m (Str.ofString "grammar") = some (.ref g)) (hg : GramIn w.params nw g an cnt (namesOf na nb) ps)
    (hm2 : m (Str.ofString "dots") = some (.ref dr)) (hdr : (dr, listOf dv.toArray de) ∈ nw) (hdv : DotsIn nw dv (dotsOf ps ps.length))
    (hQ : ∀ h' tk' m', Fr h₀ L h' m' → Q (.ret (.bool true)) { s with heap := h', toks := tk' }) :
    RestAt PySem.Challenge.rw_on0156_01.row.prog w ⟨none, d, some (envOfC (Str.ofString "law") (lawS w.params) L a cd :: outer), gs, u⟩ (lawB w.params 11) (envOfC (Str.ofString "law") (lawS w.params) L a cd) Q s := by
  rw [map_known hm2] at F
  rw [map_known hm1] at F
  have hpl9 := hps.1
  have hl4 : ∀ i, lenAt ps i ≤ 4 := lenAt_le4 fun q hq => (hpo.2 q hq).2.2.1
  have ho4 := offAt_le hl4 ps.length
  have hdl := hdv.1
  rw [dotsOf_len] at hdl
  have hnl := strs_len hnv
  have hnl2 := namesOf_len hna hnb
  obtain ⟨S0, hS⟩ : ∃ S, S = lawS w.params := ⟨_, rfl⟩
  obtain ⟨B0, hB⟩ : ∃ S, S = lawB w.params 11 := ⟨_, rfl⟩
  rw [← hS, ← hB]
  revert B F X₀ T
  w_top off
  k_fill
  intro B F X₀ T
  conv at hS => rhs; whnf
  conv at hB => rhs; whnf
  subst hS
  subst hB
  refine execs_one ?_
  k_fold
  k_steps
  rename IsRange _ _ _ _ _ _ _ _ => R9
  rename Fr _ _ _ _ => F9
  rename News _ _ _ _ => N9
  refine iter_rangeJ (n := dv.length) (fun i m₁ nw₁ => m₁ (Str.ofString "grammar") = some (.ref g) ∧ m₁ (Str.ofString "dots") = some (.ref dr) ∧ ∀ q ∈ nw, q ∈ nw₁) rfl R9 rfl (by omega) F9 N9 ⟨rfl, rfl, fun q hq => hq⟩ ?_ ?_
  · rintro i tk₀ m₁ nw₁ h₅ tk₅ I oI hi ⟨f1, f2, f3⟩ hoff F' N'
    obtain ⟨at', dt, hdt⟩ : ∃ a b, (dotsOf ps ps.length)[i]? = some (a, b) := by
      have : i < (dotsOf ps ps.length).length := by rw [dotsOf_len]; omega
      exact ⟨_, _, List.getElem?_eq_getElem this⟩
    obtain ⟨x1, x2, x3, x4, x5⟩ := dots_facts hdt
    obtain ⟨l, r, hlr⟩ : ∃ l r, ps[at']? = some (l, r) := ⟨ps[at'].1, ps[at'].2, by simp [x1]⟩
    have hle : lenAt ps at' = r.length + 1 := by unfold lenAt; rw [List.getD_eq_getElem?_getD, hlr]; rfl
    have hin := hpo.2 (l, r) (List.mem_of_getElem? hlr)
    dsimp only at hin
    obtain ⟨a1, ti1, tj1, e1, y1, y2⟩ := hdv.2 i at' dt hdt
    obtain ⟨a9, ta, tl, tv, e7, e8, z1, z2, z3, z4⟩ := hps.2 at' l r hlr
    obtain ⟨gd, k, rl, lv, st, bl, off, ow, t, nv2, ne, rv, re, ov, oe, wv, we, bv, be, h1, h2, h3, h4, h5, h6, h7, h8, h9, h10, h11, h12, h13, h14⟩ := hg
    obtain ⟨rfl, rfl⟩ := listOf_inj (news_one N9 han h3)
    obtain ⟨x, xd, tp, kr, tr, tv2, te2, w1, w2, w3, w4, w5⟩ := h7 at' l r hlr
    have y1' : dv[((i : Nat) : Int).toNat]? = some (.ref a1) := y1
    have z1' : pv[((at' : Nat) : Int).toNat]? = some (.ref a9) := z1
    have v1 : rv[((ownsN ps ps.length).getD ((i : Nat) : Int).toNat 0).toNat]? = some (.ref x) := by rw [x3]; exact w1
    have v1' : rv[((at' : Nat) : Int).toNat]? = some (.ref x) := w1
    have v2 : (offsN ps ps.length).getD ((ownsN ps ps.length).getD ((i : Nat) : Int).toNat 0).toNat 0 = (offAt ps at' : Nat) := by rw [x3]; exact x4
    have v3 := offsN_len ps ps.length
    have v4 := ownsN_len ps ps.length
    have v5 : 0 ≤ (ownsN ps ps.length).getD ((i : Nat) : Int).toNat 0 ∧ (ownsN ps ps.length).getD ((i : Nat) : Int).toNat 0 < ((offsN ps ps.length).length : Int) := by rw [x3, v3]; omega
    have v6 : 0 ≤ ((i : Nat) : Int) - (offsN ps ps.length).getD ((ownsN ps ps.length).getD ((i : Nat) : Int).toNat 0).toNat 0 := by rw [v2]; omega
    have v7 : ∀ y ∈ r, 0 ≤ y ∧ y < ((namesOf na nb).length : Int) := fun y hy => by have := hin.2.2.2 y hy; omega
    have v8 : 0 ≤ l ∧ l < ((namesOf na nb).length : Int) := by omega
    have v9 := names_len hna hnb
    have v10 := z4.length
    have v11 := w5.length
    replace hc2 := f3 _ hc2
    replace hc3 := f3 _ hc3
    replace hc4 := f3 _ hc4
    replace hpr := f3 _ hpr
    replace hdr := f3 _ hdr
    replace han := f3 _ han
    replace y2 := f3 _ y2
    replace z2 := f3 _ z2
    replace z3 := f3 _ z3
    replace h1 := f3 _ h1
    replace h2 := f3 _ h2
    replace h3 := f3 _ h3
    replace h5 := f3 _ h5
    replace h8 := f3 _ h8
    replace h10 := f3 _ h10
    replace w2 := f3 _ w2
    replace w3 := f3 _ w3
    replace w4 := f3 _ w4
    rw [map_known f2] at F'
    rw [map_known f1] at F'
    clear F9 N9 R9 hps hdv h14 h7
    have v12 : ((i : Nat) : Int) - (offsN ps ps.length).getD ((ownsN ps ps.length).getD ((i : Nat) : Int).toNat 0).toNat 0 = ((dt : Nat) : Int) := by rw [v2]; omega
    have v13 : dt < r.length + 1 := by omega
    k_steps
    all_goals first
      | (rename (_ ≠ List.getD _ _ _) => q9; exact (q9 (after_eq (by assumption) v12 v13)).elim)
      | (rename ((_ != _) = true) => q9; exfalso; (try rw [v12] at q9); simp at q9; done)
      | (rename ((_ && _) = false) => q9; exfalso; rw [v12, x3, x4, x5] at q9; simp at q9; done)
      | skip
    rename Fr _ _ _ _ => F9
    rename News _ _ _ _ => N9
    exact ⟨_, _, _, nw₁, rfl, F9, fun q hq => N9 q (by repeat (first | exact hq | apply List.mem_cons_of_mem)), hoff, rfl, rfl, f3⟩
  · rintro m₁ nw₁ h₅ tk₅ ⟨f1, f2, f3⟩ F' N'
    refine ⟨rfl, ?_⟩
    exact law12 B F' X₀ T hd hu N' (f3 _ hc2) (f3 _ hc3) (f3 _ hc4) (f3 _ hc5) d2 d3 d4 d5 (f3 _ han) hnv hna hnb hcn (f3 _ hpr) (hps.mono f3) hpl hpo f1 (hg.mono f3) hQ
end

end Mine
namespace Mine
section
variable {w : World} {d u : Nat} {outer : List Env} {gs : Option (List Code)} {L a : Addr} {cd : Value} {h₀ base : Heap} {m : Str → Option Value}
    {mg mb : Str → Option Value} {mean : ExcName → Option Value} {A₀ : Around} {s : Shared} {Q : Flow → Shared → Prop}

theorem law10 {an pr g dr : Addr} {nv pv dv : List Value} {en e de : Nat} {na nb : Nat} {c2 c3 c4 c5 : Obj} {cnt : Int} {tc : Tok} {ps : List (Int × List Int)} {nw : List (Addr × Obj)} (B : Below A₀ base outer h₀) (F : Fr h₀ L s.heap m) (X₀ : (Mine.hd.heap_39 w.params).In h₀)
    (T : Top Mine.hd.view_39 (looseW Mine.hd.view_39 [Str.ofString "show_rule"]) mean mg mb h₀) (hd : d < 500) (hu : u < 4000)
    (N : News h₀ L s.heap nw) (hc2 : (L + 1 + 1, c2) ∈ nw) (hc3 : (L + 1 + 1 + 1, c3) ∈ nw) (hc4 : (L + 1 + 1 + 1 + 1, c4) ∈ nw) (hc5 : (L + 1 + 1 + 1 + 1 + 1, c5) ∈ nw)
    (d2 : c2.data = .cell (some (.ref an))) (d3 : c3.data = .cell (some (.int cnt tc))) (d4 : c4.data = .cell (some (.ref pr))) (d5 : c5.data = .cell none)
    (han : (an, listOf nv.toArray en) ∈ nw) (hnv : StrsAre nv (namesOf na nb)) (hna : 1 ≤ na ∧ na ≤ 3) (hnb : 1 ≤ nb ∧ nb ≤ 3) (hcn : cnt = 3 + (na : Int))
    (hpr : (pr, listOf pv.toArray e) ∈ nw) (hps : PairsIn nw pv ps) (hpl : 1 ≤ ps.length ∧ ps.length ≤ 7) (hpo : PsOk cnt (nv.length : Int) ps)
    (hm1 : m (Str.ofString "grammar") = some (.ref g)) (hg : GramIn w.params nw g an cnt (namesOf na nb) ps)
    (hm2 : m (Str.ofString "dots") = some (.ref dr)) (hdr : (dr, listOf dv.toArray de) ∈ nw) (hdv : DotsIn nw dv (dotsOf ps ps.length))
    (hQ : ∀ h' tk' m', Fr h₀ L h' m' → Q (.ret (.bool true)) { s with heap := h', toks := tk' }) :
    RestAt PySem.Challenge.rw_on0156_01.row.prog w ⟨none, d, some (envOfC (Str.ofString "law") (lawS w.params) L a cd :: outer), gs, u⟩ (lawB w.params 10) (envOfC (Str.ofString "law") (lawS w.params) L a cd) Q s := by
  rw [map_known hm2] at F
  rw [map_known hm1] at F
  have hpl9 := hps.1
  have hl4 : ∀ i, lenAt ps i ≤ 4 := lenAt_le4 fun q hq => (hpo.2 q hq).2.2.1
  have ho4 := offAt_le hl4 ps.length
  have hdl := hdv.1
  rw [dotsOf_len] at hdl
  have hnl := strs_len hnv
  have hnl2 := namesOf_len hna hnb
  have hg0 := hg
  obtain ⟨gd, k, rl, lv, st, bl, off, ow, t, nv2, ne, rv, re, ov, oe, wv, we, bv, be, h1, h2, h3, h4, h5, h6, h7, h8, h9, h10, h11, h12, h13, h14⟩ := hg
  obtain ⟨rfl, rfl⟩ := listOf_inj (news_one N han h3)
  obtain ⟨S0, hS⟩ : ∃ S, S = lawS w.params := ⟨_, rfl⟩
  obtain ⟨B0, hB⟩ : ∃ S, S = lawB w.params 10 := ⟨_, rfl⟩
  rw [← hS, ← hB]
  revert B F X₀ T
  w_top off
  k_fill
  intro B F X₀ T
  conv at hS => rhs; whnf
  conv at hB => rhs; whnf
  subst hS
  subst hB
  refine execs_one ?_
  k_fold
  k_steps
  all_goals try (exfalso; omega)
  rename Fr _ _ _ _ => F9
  rename News _ _ _ _ => N9
  exact law11 B F9 X₀ T hd hu N9 hc2 hc3 hc4 hc5 d2 d3 d4 d5 han hnv hna hnb hcn hpr hps hpl hpo rfl hg0 rfl hdr hdv hQ
end

end Mine
theorem Mine.rows_10 : True := by
  k_with_none
  (k_with "k_mem" => first | with_reducible assumption | exact List.mem_cons_self | (refine' List.mem_cons_of_mem _ ?_; k_mem))
  (k_with "k_all" => first | with_reducible assumption | exact Mine.offL_ne _ _ | exact Mine.allLt_ne (by assumption) | exact Mine.ltAll_ne (by assumption))
  (k_with "k_ne" => (refine neN ?_; (try dsimp only); first | assumption | exact Ne.symm (by assumption) | exact Nat.ne_of_lt (by assumption) | exact Nat.ne_of_gt (by assumption)))
  (k_with "k_room" => ((try simp only [depth_under_make, depth_under_kw, depth_in1, depth_deeper, depth_caller]); (have hrl9 : recursionLimit = 1000 := by rfl); (try dsimp only); omega))
  (k_with "k_units" => ((have hcL9 := cLine_is); (try simp only [units_in1, units_deeper, Around.mark_units, units_caller]); (try dsimp only); omega))
  (k_with "mok" => (all_goals first | (fail_if_success (with_reducible show (_ : Prop))) | (with_reducible show wpAny _ _ _ _ _ _) | (fail_if_success (fail_if_success intro _))))
  (k_with "mc" => (try any_goals ((with_reducible show Fr _ _ _ _); k_asm)); (try any_goals ((with_reducible show (_ : Prop)); (fail_if_success (with_reducible show wpAny _ _ _ _ _ _)); first | k_mem | k_asm | (intro vz8 nz8; k_upd) | ((fail_if_success intro _); first | exact rfl | ((with_reducible show (_ : Nat) < _); first | k_room | k_units) | ((try rw [sizeLine_eq]); (try simp only [List.size_toArray, List.length_append, List.length_cons, List.length_nil, Array.length_toList, List.length_replicate]); omega) | exact News.isList (by k_asm) (by k_mem) | exact News.isTup (by k_asm) (by k_mem) | k_upd))); k_extra "mok")
  (k_with "me" => ((try dsimp only); (try k_sweep)))
  (k_with "ment" => (try any_goals ((with_reducible show Below _ _ _ _); k_asm)); (try any_goals ((with_reducible show Fr _ _ _ _); k_asm)); (try any_goals ((with_reducible show Frag.In _ _); k_asm)); (try any_goals ((with_reducible show News _ _ _ _); k_asm)); (try any_goals ((with_reducible show Top _ _ _ _ _ _); k_asm)); (try any_goals ((with_reducible show (_ : Option _) = _); k_is)); (try any_goals ((with_reducible show codeIn _ _ _ = _); k_is)); (try any_goals ((with_reducible show (_ : Nat) < _); k_room)); (try any_goals ((with_reducible show BindsTo _ _ _ _); first | exact BindsTo.of_eq rfl | exact binds_K (by k_in) rfl (by k_is) rfl rfl rfl | fail "k_enter: no rule for these arguments")))
  (k_with "k_enter" => (refine' code_def ?_ ?_ ?_ ?_ ?_ (by exact rfl) (by first | exact rfl | assumption) (by first | exact rfl | assumption) ?_ ?_ ?_ ?_ ?_ ?_ ?_ ?_ ?_ ?_; k_extra "ment"; (try any_goals ((with_reducible show (_ : Bool) = _); exact rfl)); (try any_goals ((with_reducible show (_ : ScopeKind) = _); exact rfl)); (any_goals exact locs rfl); (any_goals ((with_reducible show ∀ x ∈ Scope.names _, _); decide)); k_extra "mok"; k_whole; intro _ _ _ _ _ _ Bz9 _ _; (try dsimp only); (try k_lift Bz9); (try k_fold)))
  (k_with "k_enter" => (refine' code_defC ?_ ?_ ?_ ?_ ?_ (by exact rfl) (by first | exact rfl | assumption) (by first | exact rfl | assumption) ?_ ?_ ?_ ?_ ?_ ?_ ?_ ?_ ?_ ?_; k_extra "ment"; (try any_goals ((with_reducible show (_ : Bool) = _); exact rfl)); (try any_goals ((with_reducible show (_ : ScopeKind) = _); exact rfl)); (any_goals ((with_reducible show List.Nodup _); decide +kernel)); k_extra "mok"; k_whole; intro _ _ _ _ _ _ _ Nz9 Yz9 Bz9 _ _ lz9; (try k_lt lz9); k_cells Yz9; (try simp only [List.cons_append, List.nil_append] at Nz9); (try dsimp only); (try k_lift Bz9); (try k_fold)))
  (k_with "k_enter" => ((with_reducible refine' Mine.gAt 138 ?_); refine' Mine.take_specU ?_ ?_ ?_ ?_ ?_ ?_ ?_ ?_ ?_ ?_ ?_ ?_ ?_ ?_; k_extra "mc"; intro _ _ _ _ _ _ _ _ _ _ _ _; k_extra "me"))
  (k_with "call builtin:len" => (k_here; (with_reducible show wpAny _ _ (call (Value.builtin "len") [Value.ref _]) _ _ _); k_dflt (first | (refine Mine.len_led (by k_asm) (by k_mem) (by (simp only [List.size_toArray]; omega)) ?_; k_whole; (try simp only [List.size_toArray])) | (refine Mine.lent_led (by k_asm) (by k_mem) (by (simp only [List.size_toArray]; omega)) ?_; k_whole; (try simp only [List.size_toArray])))))
  (k_with "subscriptTail" => (k_here; (with_reducible show wpAny _ _ (subscriptTail _ _ (Value.ref _) (Value.int _ _)) _ _ _); k_dflt (first | (refine Mine.item_led (by k_asm) (by k_mem) (by omega) (by with_reducible assumption) (by omega) ?_; k_whole) | (refine Mine.itemt_led (by k_asm) (by k_mem) (by omega) (by with_reducible assumption) (by omega) ?_; k_whole))))
  (k_with "compareOp In" => (k_here; (with_reducible show wpAny _ _ (compareOp CmpOp.In (Value.str _ _) (Value.ref _)) _ _ _); k_dflt (refine Mine.in_strs (by k_asm) (by k_mem) (by with_reducible assumption) ?_; k_whole)))
  (k_with "call builtin:list.index" => (k_here; (with_reducible show wpAny _ _ (call (Value.builtin _) [Value.ref _, Value.str _ _]) _ _ _); k_dflt (refine Mine.index_strs (by k_asm) (by k_mem) (by with_reducible assumption) (by omega) (by first | assumption | (simp_all; done)) ?_; k_whole)))
  (k_with "call type:list" => (k_here; (with_reducible show wpAny _ _ (call (Value.type _) [Value.ref _]) _ _ _); (with_unfolding_all first | (refine list_copyK (by k_asm) (by k_asm) (by exact News.isList (by k_asm) (by k_mem)) ?_ (by (rw [sizeLine_eq]; simp only [List.size_toArray]; omega)); k_whole) | (refine list_copyKT (by k_asm) (by k_asm) (by exact News.isTup (by k_asm) (by k_mem)) ?_ (by (rw [sizeLine_eq]; simp only [List.size_toArray]; omega)); k_whole)); intro _ _ _ _ _ lz9; (try k_lt lz9); (try k_sweep)))
  (k_with "binaryOp Add ref ref" => (k_here; (with_reducible show wpAny _ _ (binaryOp _ (Value.ref _) (Value.ref _)) _ _ _); k_dflt (refine' Mine.add_led ?_ ?_ ?_ ?_ ?_ ?_; k_extra "mc"); intro _ _ _ _ lz9; (try k_lt lz9); (try k_sweep)))
  (k_with "binaryOp Add str str" => (k_here; (with_reducible show wpAny _ _ (binaryOp _ (Value.str _ _) (Value.str _ _)) _ _ _); k_dflt (refine PyProof.Rows.add_str ?_ (by with_reducible assumption)); intro _ _))
  (k_with "k_enter" => ((with_reducible refine' Mine.gAt 55 ?_); refine' Mine.symbolCount_spec ?_ ?_ ?_ ?_ ?_ ?_ ?_ ?_ ?_ ?_ ?_ ?_ ?_ ?_; k_extra "mc"; intro _ _ _ _ _; k_extra "me"))
  (k_with "k_enter" => ((with_reducible refine' Mine.gAt 62 ?_); refine' Mine.isTerminal_spec ?_ ?_ ?_ ?_ ?_ ?_ ?_ ?_ ?_ ?_ ?_ ?_; k_extra "mc"; intro _ _ _ _; k_extra "me"))
  (k_with "k_enter" => ((with_reducible refine' Mine.gAt 69 ?_); refine' Mine.isMiddle_spec ?_ ?_ ?_ ?_ ?_ ?_ ?_ ?_ ?_ ?_ ?_ ?_ ?_ ?_ ?_ ?_ ?_; k_extra "mc"; intro _ _ _ _; k_extra "me"))
  (k_with "k_enter" => ((with_reducible refine' Mine.gAt 76 ?_); refine' Mine.number_spec ?_ ?_ ?_ ?_ ?_ ?_ ?_ ?_ ?_ ?_ ?_ ?_ ?_ ?_ ?_ ?_; k_extra "mc"; intro _ _ _ _ _ _ _; k_extra "me"))
  (k_with "k_enter" => ((with_reducible refine' Mine.gAt 83 ?_); refine' Mine.rulesOf_spec ?_ ?_ ?_ ?_ ?_ ?_ ?_ ?_ ?_ ?_ ?_ ?_ ?_ ?_ ?_ ?_ ?_ ?_ ?_; k_extra "mc"; intro _ _ _ _ _ _ lz9; (try k_lt lz9); k_extra "me"))
  (k_with "k_enter" => ((with_reducible refine' Mine.gAt 90 ?_); refine' Mine.item_spec ?_ ?_ ?_ ?_ ?_ ?_ ?_ ?_ ?_ ?_ ?_ ?_ ?_ ?_ ?_ ?_; k_extra "mc"; intro _ _ _ _ _; k_extra "me"))
  (k_with "k_enter" => ((with_reducible refine' Mine.gAt 97 ?_); refine' Mine.ruleOf_spec ?_ ?_ ?_ ?_ ?_ ?_ ?_ ?_ ?_ ?_ ?_ ?_ ?_ ?_ ?_ ?_; k_extra "mc"; intro _ _ _ _ _; k_extra "me"))
  (k_with "k_enter" => ((with_reducible refine' Mine.gAt 104 ?_); refine' Mine.dotOf_spec ?_ ?_ ?_ ?_ ?_ ?_ ?_ ?_ ?_ ?_ ?_ ?_ ?_ ?_ ?_ ?_ ?_ ?_ ?_ ?_; k_extra "mc"; intro _ _ _ _ _; k_extra "me"))
  (k_with "k_enter" => ((with_reducible refine' Mine.gAt 111 ?_); refine' Mine.after_spec ?_ ?_ ?_ ?_ ?_ ?_ ?_ ?_ ?_ ?_ ?_ ?_ ?_ ?_ ?_ ?_ ?_ ?_ ?_ ?_ ?_ ?_ ?_ ?_ ?_ ?_ ?_ ?_ ?_; k_extra "mc"; intro _ _ _ _ _ _ _; k_extra "me"))
  (k_with "k_enter" => ((with_reducible refine' Mine.gAt 143 ?_); refine' Mine.lawShown_spec ?_ ?_ ?_ ?_ ?_ ?_ ?_ ?_ ?_ ?_ ?_ ?_ ?_ ?_ ?_ ?_ ?_ ?_ ?_; k_extra "mc"; intro _ _ _ _ _; k_extra "me"))
  (k_with "k_enter" => ((with_reducible refine' Mine.g3 ?_); refine' Mine.showRule_spec ?_ ?_ ?_ ?_ ?_ ?_ ?_ ?_ ?_ ?_ ?_ ?_ ?_ ?_ ?_ ?_ ?_ ?_ ?_ ?_ ?_ ?_ ?_ ?_ ?_ ?_ ?_ ?_; k_extra "mc"; intro _ _ _ _ _; k_extra "me"))
  (k_with "k_enter" => ((with_reducible refine' Mine.g2 ?_); refine' Mine.showRule0_spec ?_ ?_ ?_ ?_ ?_ ?_ ?_ ?_ ?_ ?_ ?_ ?_ ?_ ?_ ?_ ?_ ?_ ?_ ?_ ?_ ?_ ?_ ?_ ?_ ?_ ?_ ?_; k_extra "mc"; intro _ _ _ _ _; k_extra "me"))
  (k_with "k_enter" => ((with_reducible refine' Mine.gAt 131 ?_); refine' Mine.showItem_spec ?_ ?_ ?_ ?_ ?_ ?_ ?_ ?_ ?_ ?_ ?_ ?_ ?_ ?_ ?_ ?_ ?_ ?_ ?_ ?_ ?_ ?_ ?_ ?_ ?_ ?_ ?_ ?_ ?_ ?_ ?_ ?_ ?_ ?_ ?_; k_extra "mc"; intro _ _ _ _ _; k_extra "me"))
  (k_with "exec For Name Attribute cons nil" => (k_here; (with_unfolding_all refine Mine.for_mine (by k_asm) (by exact rfl) (by exact rfl) ?_; k_whole)))
  (k_with "exec For Name Call cons nil" => (k_here; (with_unfolding_all refine Mine.for_mine (by k_asm) (by exact rfl) (by exact rfl) ?_; k_whole)))
  (k_with "call type:range" => (k_here; (with_reducible show wpAny _ _ (call _ [Value.int _ _]) _ _ _); k_dflt (refine range1_rows (by k_asm) (by k_asm) ?_); intro _ _ _ _ _ _ _ _ _; (try k_sweep)))
  (k_with "call builtin:list.append" => (k_here; (with_reducible show wpAny _ _ (call (Value.builtin _) [Value.ref _, _]) _ _ _); k_dflt (refine Mine.append_led (by k_asm) (by k_asm) (by k_upd) (by omega) ?_); intro _ _ _; (try k_sweep)))
  (k_with "call builtin:list.extend" => (k_here; (with_reducible show wpAny _ _ (call (Value.builtin _) [Value.ref _, Value.ref _]) _ _ _); k_dflt (refine Mine.extend_led (by k_asm) (by k_asm) (by k_mem) (by ((try simp only [List.length_replicate]); omega)) (by k_upd) (by omega) (by ((try simp only [List.length_replicate]); omega)) ?_); intro _ _ _; (try k_sweep)))
  (k_with "binaryOp Mult ref int" => (k_here; k_dflt (refine Mine.mul_one_led (by k_asm) (by k_asm) (by k_mem) (by omega) (by omega) ?_); intro _ _ _ _ lz9; (try k_lt lz9); (try k_sweep)))
  (k_with "call type:tuple" => (k_here; (with_reducible show wpAny _ _ (call (Value.type _) [Value.ref _]) _ _ _); k_dflt (refine kde_tupleOf (by k_asm) (by k_asm) (by exact News.isList (by k_asm) (by k_mem)) (by ((try simp only [List.size_toArray]); omega)) (by rfl) ?_; k_whole); intro _ _ _ _ lz9; (try k_lt lz9); (try k_sweep)))
  (k_with "k_all" => exact Mine.allLt_ne (by repeat (first | assumption | (rename (_ ∧ _) => hcj9; cases hcj9))))
  trivial
namespace Mine
section
variable {w : World} {d u : Nat} {outer : List Env} {gs : Option (List Code)} {L a : Addr} {cd : Value} {h₀ base : Heap} {m : Str → Option Value}
    {mg mb : Str → Option Value} {mean : ExcName → Option Value} {A₀ : Around} {s : Shared} {Q : Flow → Shared → Prop}

theorem law9 {an pr g : Addr} {nv pv : List Value} {en e : Nat} {na nb : Nat} {c2 c3 c4 c5 : Obj} {cnt : Int} {tc : Tok} {ps : List (Int × List Int)} {nw : List (Addr × Obj)} (B : Below A₀ base outer h₀) (F : Fr h₀ L s.heap m) (X₀ : (Mine.hd.heap_39 w.params).In h₀)
    (T : Top Mine.hd.view_39 (looseW Mine.hd.view_39 [Str.ofString "show_rule"]) mean mg mb h₀) (hd : d < 500) (hu : u < 4000)
    (N : News h₀ L s.heap nw) (hc2 : (L + 1 + 1, c2) ∈ nw) (hc3 : (L + 1 + 1 + 1, c3) ∈ nw) (hc4 : (L + 1 + 1 + 1 + 1, c4) ∈ nw) (hc5 : (L + 1 + 1 + 1 + 1 + 1, c5) ∈ nw)
    (d2 : c2.data = .cell (some (.ref an))) (d3 : c3.data = .cell (some (.int cnt tc))) (d4 : c4.data = .cell (some (.ref pr))) (d5 : c5.data = .cell none)
    (han : (an, listOf nv.toArray en) ∈ nw) (hnv : StrsAre nv (namesOf na nb)) (hna : 1 ≤ na ∧ na ≤ 3) (hnb : 1 ≤ nb ∧ nb ≤ 3) (hcn : cnt = 3 + (na : Int))
    (hpr : (pr, listOf pv.toArray e) ∈ nw) (hps : PairsIn nw pv ps) (hpl : 1 ≤ ps.length ∧ ps.length ≤ 7) (hpo : PsOk cnt (nv.length : Int) ps)
    (hm1 : m (Str.ofString "grammar") = some (.ref g)) (hg : GramIn w.params nw g an cnt (namesOf na nb) ps)
    (hQ : ∀ h' tk' m', Fr h₀ L h' m' → Q (.ret (.bool true)) { s with heap := h', toks := tk' }) :
    RestAt PySem.Challenge.rw_on0156_01.row.prog w ⟨none, d, some (envOfC (Str.ofString "law") (lawS w.params) L a cd :: outer), gs, u⟩ (lawB w.params 9) (envOfC (Str.ofString "law") (lawS w.params) L a cd) Q s := by
  rw [map_known hm1] at F
  have hpl9 := hps.1
  have hl4 : ∀ i, lenAt ps i ≤ 4 := lenAt_le4 fun q hq => (hpo.2 q hq).2.2.1
  have ho4 := offAt_le hl4
  obtain ⟨S0, hS⟩ : ∃ S, S = lawS w.params := ⟨_, rfl⟩
  obtain ⟨B0, hB⟩ : ∃ S, S = lawB w.params 9 := ⟨_, rfl⟩
  rw [← hS, ← hB]
  revert B F X₀ T
  w_top off
  k_fill
  intro B F X₀ T
  conv at hS => rhs; whnf
  conv at hB => rhs; whnf
  subst hS
  subst hB
  refine execs_one ?_
  refine Mine.assign_comp2 (h₀ := h₀) (L := L) (m := fun y => if y = Str.ofString "grammar" then some (.ref g) else m y) (n := pv.length) (lenAt ps) (DotsJ nw ps) (DotsK nw ps) rfl (by rfl) (by with_unfolding_all rfl) (by rfl) (by decide) (by rfl) (by decide) (by rfl) (by rfl) (by decide) (by rfl) (by rfl) (by omega) (fun i _ => by have := hl4 i; omega) (fun i j ys nw' h => by have := h.2.2; omega) ?_ ?_ ?_ ?_ ?_
  · k_fold
    k_steps
    rename IsRange _ _ _ _ _ _ _ _ => R9
    rename Fr _ _ _ _ => F9
    rename News _ _ _ _ => N9
    exact ⟨_, _, _, _, _, _, _, rfl, rfl, R9, F9, N9, fun q hq => hq, rfl, fun k i j h => by simp [dotsOf] at h⟩
  · rintro i ys fam oI oC m₂ h' tk' I C D t1 hi ⟨f1, f2⟩ hC hx F' N' off' ne'
    obtain ⟨oe1, oe2, oe3⟩ := ne'
    obtain ⟨l, r, hlr⟩ : ∃ l r, ps[i]? = some (l, r) := by
      have : i < ps.length := by omega
      exact ⟨ps[i].1, ps[i].2, by simp [this]⟩
    have hle : lenAt ps i = r.length + 1 := by unfold lenAt; rw [List.getD_eq_getElem?_getD, hlr]; rfl
    obtain ⟨a9, ta, tl, tv, e7, e8, g1, g2, g3, g4⟩ := hps.2 i l r hlr
    have g1' : pv[((i : Nat) : Int).toNat]? = some (.ref a9) := g1
    have gl := g4.length
    have hl0 := hl4 i
    replace hc4 := f1 _ hc4
    replace hpr := f1 _ hpr
    replace g2 := f1 _ g2
    replace g3 := f1 _ g3
    clear hps
    k_steps
    rename IsRange _ _ _ _ _ _ _ _ => R9
    rename Fr _ _ _ _ => F9
    rename News _ _ _ _ => N9
    refine src2_mk R9 (by rw [hle]; omega) F9 N9 off' ⟨f1, ?_, ?_, ?_⟩
    · simpa using f2
    · have := f2.1
      have := ho4 i
      rw [dotsOf_len] at *
      omega
    · omega
  · rintro i j ys fam oI1 oI2 oC m₂ h' tk' I1 I2 C D t1 t2 hi hj hK hC hx1 hx2 F' N' off'
    k_fold
    k_steps
    rename Fr _ _ _ _ => F9
    rename News _ _ _ _ => N9
    rename (I2 < _ ∧ I1 < _ ∧ _) => lA
    exact dots_end F9 N9 lA off' hK hl4 ho4 hj
  · intro i ys fam hi hK
    refine ⟨hK.1, ?_⟩
    rw [dotsOf_succ]
    exact hK.2.1
  · intro D h' tk' ys fam hJ F' N' o1'
    refine ⟨rfl, ?_⟩
    obtain ⟨f1, f2⟩ := hJ
    rw [hpl9] at f2
    exact law10 (dv := ys) B F' X₀ T hd hu N' (List.mem_cons_of_mem _ (f1 _ hc2)) (List.mem_cons_of_mem _ (f1 _ hc3)) (List.mem_cons_of_mem _ (f1 _ hc4)) (List.mem_cons_of_mem _ (f1 _ hc5)) d2 d3 d4 d5 (List.mem_cons_of_mem _ (f1 _ han)) hnv hna hnb hcn
      (List.mem_cons_of_mem _ (f1 _ hpr)) (hps.mono fun q hq => List.mem_cons_of_mem _ (f1 q hq)) hpl hpo rfl (hg.mono fun q hq => List.mem_cons_of_mem _ (f1 q hq)) rfl List.mem_cons_self (f2.mono fun q hq => List.mem_cons_of_mem _ hq) hQ
end

end Mine
theorem Mine.rows_11 : True := by
  k_with_none
  (k_with "k_mem" => first | with_reducible assumption | exact List.mem_cons_self | (refine' List.mem_cons_of_mem _ ?_; k_mem))
  (k_with "k_all" => first | with_reducible assumption | exact Mine.offL_ne _ _ | exact Mine.allLt_ne (by assumption) | exact Mine.ltAll_ne (by assumption))
  (k_with "k_ne" => (refine neN ?_; (try dsimp only); first | assumption | exact Ne.symm (by assumption) | exact Nat.ne_of_lt (by assumption) | exact Nat.ne_of_gt (by assumption)))
  (k_with "k_room" => ((try simp only [depth_under_make, depth_under_kw, depth_in1, depth_deeper, depth_caller]); (have hrl9 : recursionLimit = 1000 := by rfl); (try dsimp only); omega))
  (k_with "k_units" => ((have hcL9 := cLine_is); (try simp only [units_in1, units_deeper, Around.mark_units, units_caller]); (try dsimp only); omega))
  (k_with "mok" => (all_goals first | (fail_if_success (with_reducible show (_ : Prop))) | (with_reducible show wpAny _ _ _ _ _ _) | (fail_if_success (fail_if_success intro _))))
  (k_with "mc" => (try any_goals ((with_reducible show Fr _ _ _ _); k_asm)); (try any_goals ((with_reducible show (_ : Prop)); (fail_if_success (with_reducible show wpAny _ _ _ _ _ _)); first | k_mem | k_asm | (intro vz8 nz8; k_upd) | ((fail_if_success intro _); first | exact rfl | ((with_reducible show (_ : Nat) < _); first | k_room | k_units) | ((try rw [sizeLine_eq]); (try simp only [List.size_toArray, List.length_append, List.length_cons, List.length_nil, Array.length_toList, List.length_replicate]); omega) | exact News.isList (by k_asm) (by k_mem) | exact News.isTup (by k_asm) (by k_mem) | k_upd))); k_extra "mok")
  (k_with "me" => ((try dsimp only); (try k_sweep)))
  (k_with "ment" => (try any_goals ((with_reducible show Below _ _ _ _); k_asm)); (try any_goals ((with_reducible show Fr _ _ _ _); k_asm)); (try any_goals ((with_reducible show Frag.In _ _); k_asm)); (try any_goals ((with_reducible show News _ _ _ _); k_asm)); (try any_goals ((with_reducible show Top _ _ _ _ _ _); k_asm)); (try any_goals ((with_reducible show (_ : Option _) = _); k_is)); (try any_goals ((with_reducible show codeIn _ _ _ = _); k_is)); (try any_goals ((with_reducible show (_ : Nat) < _); k_room)); (try any_goals ((with_reducible show BindsTo _ _ _ _); first | exact BindsTo.of_eq rfl | exact binds_K (by k_in) rfl (by k_is) rfl rfl rfl | fail "k_enter: no rule for these arguments")))
  (k_with "k_enter" => (refine' code_def ?_ ?_ ?_ ?_ ?_ (by exact rfl) (by first | exact rfl | assumption) (by first | exact rfl | assumption) ?_ ?_ ?_ ?_ ?_ ?_ ?_ ?_ ?_ ?_; k_extra "ment"; (try any_goals ((with_reducible show (_ : Bool) = _); exact rfl)); (try any_goals ((with_reducible show (_ : ScopeKind) = _); exact rfl)); (any_goals exact locs rfl); (any_goals ((with_reducible show ∀ x ∈ Scope.names _, _); decide)); k_extra "mok"; k_whole; intro _ _ _ _ _ _ Bz9 _ _; (try dsimp only); (try k_lift Bz9); (try k_fold)))
  (k_with "k_enter" => (refine' code_defC ?_ ?_ ?_ ?_ ?_ (by exact rfl) (by first | exact rfl | assumption) (by first | exact rfl | assumption) ?_ ?_ ?_ ?_ ?_ ?_ ?_ ?_ ?_ ?_; k_extra "ment"; (try any_goals ((with_reducible show (_ : Bool) = _); exact rfl)); (try any_goals ((with_reducible show (_ : ScopeKind) = _); exact rfl)); (any_goals ((with_reducible show List.Nodup _); decide +kernel)); k_extra "mok"; k_whole; intro _ _ _ _ _ _ _ Nz9 Yz9 Bz9 _ _ lz9; (try k_lt lz9); k_cells Yz9; (try simp only [List.cons_append, List.nil_append] at Nz9); (try dsimp only); (try k_lift Bz9); (try k_fold)))
  (k_with "k_enter" => ((with_reducible refine' Mine.gAt 138 ?_); refine' Mine.take_specU ?_ ?_ ?_ ?_ ?_ ?_ ?_ ?_ ?_ ?_ ?_ ?_ ?_ ?_; k_extra "mc"; intro _ _ _ _ _ _ _ _ _ _ _ _; k_extra "me"))
  (k_with "call builtin:len" => (k_here; (with_reducible show wpAny _ _ (call (Value.builtin "len") [Value.ref _]) _ _ _); k_dflt (first | (refine Mine.len_led (by k_asm) (by k_mem) (by (simp only [List.size_toArray]; omega)) ?_; k_whole; (try simp only [List.size_toArray])) | (refine Mine.lent_led (by k_asm) (by k_mem) (by (simp only [List.size_toArray]; omega)) ?_; k_whole; (try simp only [List.size_toArray])))))
  (k_with "subscriptTail" => (k_here; (with_reducible show wpAny _ _ (subscriptTail _ _ (Value.ref _) (Value.int _ _)) _ _ _); k_dflt (first | (refine Mine.item_led (by k_asm) (by k_mem) (by omega) (by with_reducible assumption) (by omega) ?_; k_whole) | (refine Mine.itemt_led (by k_asm) (by k_mem) (by omega) (by with_reducible assumption) (by omega) ?_; k_whole))))
  (k_with "compareOp In" => (k_here; (with_reducible show wpAny _ _ (compareOp CmpOp.In (Value.str _ _) (Value.ref _)) _ _ _); k_dflt (refine Mine.in_strs (by k_asm) (by k_mem) (by with_reducible assumption) ?_; k_whole)))
  (k_with "call builtin:list.index" => (k_here; (with_reducible show wpAny _ _ (call (Value.builtin _) [Value.ref _, Value.str _ _]) _ _ _); k_dflt (refine Mine.index_strs (by k_asm) (by k_mem) (by with_reducible assumption) (by omega) (by first | assumption | (simp_all; done)) ?_; k_whole)))
  (k_with "call type:list" => (k_here; (with_reducible show wpAny _ _ (call (Value.type _) [Value.ref _]) _ _ _); (with_unfolding_all first | (refine list_copyK (by k_asm) (by k_asm) (by exact News.isList (by k_asm) (by k_mem)) ?_ (by (rw [sizeLine_eq]; simp only [List.size_toArray]; omega)); k_whole) | (refine list_copyKT (by k_asm) (by k_asm) (by exact News.isTup (by k_asm) (by k_mem)) ?_ (by (rw [sizeLine_eq]; simp only [List.size_toArray]; omega)); k_whole)); intro _ _ _ _ _ lz9; (try k_lt lz9); (try k_sweep)))
  (k_with "binaryOp Add ref ref" => (k_here; (with_reducible show wpAny _ _ (binaryOp _ (Value.ref _) (Value.ref _)) _ _ _); k_dflt (refine' Mine.add_led ?_ ?_ ?_ ?_ ?_ ?_; k_extra "mc"); intro _ _ _ _ lz9; (try k_lt lz9); (try k_sweep)))
  (k_with "binaryOp Add str str" => (k_here; (with_reducible show wpAny _ _ (binaryOp _ (Value.str _ _) (Value.str _ _)) _ _ _); k_dflt (refine PyProof.Rows.add_str ?_ (by with_reducible assumption)); intro _ _))
  (k_with "k_enter" => ((with_reducible refine' Mine.gAt 55 ?_); refine' Mine.symbolCount_spec ?_ ?_ ?_ ?_ ?_ ?_ ?_ ?_ ?_ ?_ ?_ ?_ ?_ ?_; k_extra "mc"; intro _ _ _ _ _; k_extra "me"))
  (k_with "k_enter" => ((with_reducible refine' Mine.gAt 62 ?_); refine' Mine.isTerminal_spec ?_ ?_ ?_ ?_ ?_ ?_ ?_ ?_ ?_ ?_ ?_ ?_; k_extra "mc"; intro _ _ _ _; k_extra "me"))
  (k_with "k_enter" => ((with_reducible refine' Mine.gAt 69 ?_); refine' Mine.isMiddle_spec ?_ ?_ ?_ ?_ ?_ ?_ ?_ ?_ ?_ ?_ ?_ ?_ ?_ ?_ ?_ ?_ ?_; k_extra "mc"; intro _ _ _ _; k_extra "me"))
  (k_with "k_enter" => ((with_reducible refine' Mine.gAt 76 ?_); refine' Mine.number_spec ?_ ?_ ?_ ?_ ?_ ?_ ?_ ?_ ?_ ?_ ?_ ?_ ?_ ?_ ?_ ?_; k_extra "mc"; intro _ _ _ _ _ _ _; k_extra "me"))
  (k_with "k_enter" => ((with_reducible refine' Mine.gAt 83 ?_); refine' Mine.rulesOf_spec ?_ ?_ ?_ ?_ ?_ ?_ ?_ ?_ ?_ ?_ ?_ ?_ ?_ ?_ ?_ ?_ ?_ ?_ ?_; k_extra "mc"; intro _ _ _ _ _ _ lz9; (try k_lt lz9); k_extra "me"))
  (k_with "k_enter" => ((with_reducible refine' Mine.gAt 90 ?_); refine' Mine.item_spec ?_ ?_ ?_ ?_ ?_ ?_ ?_ ?_ ?_ ?_ ?_ ?_ ?_ ?_ ?_ ?_; k_extra "mc"; intro _ _ _ _ _; k_extra "me"))
  (k_with "k_enter" => ((with_reducible refine' Mine.gAt 97 ?_); refine' Mine.ruleOf_spec ?_ ?_ ?_ ?_ ?_ ?_ ?_ ?_ ?_ ?_ ?_ ?_ ?_ ?_ ?_ ?_; k_extra "mc"; intro _ _ _ _ _; k_extra "me"))
  (k_with "k_enter" => ((with_reducible refine' Mine.gAt 104 ?_); refine' Mine.dotOf_spec ?_ ?_ ?_ ?_ ?_ ?_ ?_ ?_ ?_ ?_ ?_ ?_ ?_ ?_ ?_ ?_ ?_ ?_ ?_ ?_; k_extra "mc"; intro _ _ _ _ _; k_extra "me"))
  (k_with "k_enter" => ((with_reducible refine' Mine.gAt 111 ?_); refine' Mine.after_spec ?_ ?_ ?_ ?_ ?_ ?_ ?_ ?_ ?_ ?_ ?_ ?_ ?_ ?_ ?_ ?_ ?_ ?_ ?_ ?_ ?_ ?_ ?_ ?_ ?_ ?_ ?_ ?_ ?_; k_extra "mc"; intro _ _ _ _ _ _ _; k_extra "me"))
  (k_with "k_enter" => ((with_reducible refine' Mine.gAt 143 ?_); refine' Mine.lawShown_spec ?_ ?_ ?_ ?_ ?_ ?_ ?_ ?_ ?_ ?_ ?_ ?_ ?_ ?_ ?_ ?_ ?_ ?_ ?_; k_extra "mc"; intro _ _ _ _ _; k_extra "me"))
  (k_with "k_enter" => ((with_reducible refine' Mine.g3 ?_); refine' Mine.showRule_spec ?_ ?_ ?_ ?_ ?_ ?_ ?_ ?_ ?_ ?_ ?_ ?_ ?_ ?_ ?_ ?_ ?_ ?_ ?_ ?_ ?_ ?_ ?_ ?_ ?_ ?_ ?_ ?_; k_extra "mc"; intro _ _ _ _ _; k_extra "me"))
  (k_with "k_enter" => ((with_reducible refine' Mine.g2 ?_); refine' Mine.showRule0_spec ?_ ?_ ?_ ?_ ?_ ?_ ?_ ?_ ?_ ?_ ?_ ?_ ?_ ?_ ?_ ?_ ?_ ?_ ?_ ?_ ?_ ?_ ?_ ?_ ?_ ?_ ?_; k_extra "mc"; intro _ _ _ _ _; k_extra "me"))
  (k_with "k_enter" => ((with_reducible refine' Mine.gAt 131 ?_); refine' Mine.showItem_spec ?_ ?_ ?_ ?_ ?_ ?_ ?_ ?_ ?_ ?_ ?_ ?_ ?_ ?_ ?_ ?_ ?_ ?_ ?_ ?_ ?_ ?_ ?_ ?_ ?_ ?_ ?_ ?_ ?_ ?_ ?_ ?_ ?_ ?_ ?_; k_extra "mc"; intro _ _ _ _ _; k_extra "me"))
  (k_with "exec For Name Attribute cons nil" => (k_here; (with_unfolding_all refine Mine.for_mine (by k_asm) (by exact rfl) (by exact rfl) ?_; k_whole)))
  (k_with "exec For Name Call cons nil" => (k_here; (with_unfolding_all refine Mine.for_mine (by k_asm) (by exact rfl) (by exact rfl) ?_; k_whole)))
  (k_with "call type:range" => (k_here; (with_reducible show wpAny _ _ (call _ [Value.int _ _]) _ _ _); k_dflt (refine range1_rows (by k_asm) (by k_asm) ?_); intro _ _ _ _ _ _ _ _ _; (try k_sweep)))
  (k_with "call builtin:list.append" => (k_here; (with_reducible show wpAny _ _ (call (Value.builtin _) [Value.ref _, _]) _ _ _); k_dflt (refine Mine.append_led (by k_asm) (by k_asm) (by k_upd) (by omega) ?_); intro _ _ _; (try k_sweep)))
  (k_with "call builtin:list.extend" => (k_here; (with_reducible show wpAny _ _ (call (Value.builtin _) [Value.ref _, Value.ref _]) _ _ _); k_dflt (refine Mine.extend_led (by k_asm) (by k_asm) (by k_mem) (by ((try simp only [List.length_replicate]); omega)) (by k_upd) (by omega) (by ((try simp only [List.length_replicate]); omega)) ?_); intro _ _ _; (try k_sweep)))
  (k_with "binaryOp Mult ref int" => (k_here; k_dflt (refine Mine.mul_one_led (by k_asm) (by k_asm) (by k_mem) (by omega) (by omega) ?_); intro _ _ _ _ lz9; (try k_lt lz9); (try k_sweep)))
  (k_with "call type:tuple" => (k_here; (with_reducible show wpAny _ _ (call (Value.type _) [Value.ref _]) _ _ _); k_dflt (refine kde_tupleOf (by k_asm) (by k_asm) (by exact News.isList (by k_asm) (by k_mem)) (by ((try simp only [List.size_toArray]); omega)) (by rfl) ?_; k_whole); intro _ _ _ _ lz9; (try k_lt lz9); (try k_sweep)))
  (k_with "k_all" => exact Mine.allLt_ne (by repeat (first | assumption | (rename (_ ∧ _) => hcj9; cases hcj9))))
  (k_with "k_enter" => (with_reducible refine' Mine.gAt 48 ?_))
  trivial
namespace Mine
section
variable {w : World} {d u : Nat} {outer : List Env} {gs : Option (List Code)} {L a : Addr} {cd : Value} {h₀ base : Heap} {m : Str → Option Value}
    {mg mb : Str → Option Value} {mean : ExcName → Option Value} {A₀ : Around} {s : Shared} {Q : Flow → Shared → Prop}

theorem law8 {an pr rl : Addr} {nv pv rv : List Value} {en e re : Nat} {na nb : Nat} {c2 c3 c4 c5 : Obj} {cnt : Int} {tc : Tok} {ps : List (Int × List Int)} {nw : List (Addr × Obj)} (B : Below A₀ base outer h₀) (F : Fr h₀ L s.heap m) (X₀ : (Mine.hd.heap_39 w.params).In h₀)
    (T : Top Mine.hd.view_39 (looseW Mine.hd.view_39 [Str.ofString "show_rule"]) mean mg mb h₀) (hd : d < 500) (hu : u < 4000)
    (N : News h₀ L s.heap nw) (hc2 : (L + 1 + 1, c2) ∈ nw) (hc3 : (L + 1 + 1 + 1, c3) ∈ nw) (hc4 : (L + 1 + 1 + 1 + 1, c4) ∈ nw) (hc5 : (L + 1 + 1 + 1 + 1 + 1, c5) ∈ nw)
    (d2 : c2.data = .cell (some (.ref an))) (d3 : c3.data = .cell (some (.int cnt tc))) (d4 : c4.data = .cell (some (.ref pr))) (d5 : c5.data = .cell none)
    (han : (an, listOf nv.toArray en) ∈ nw) (hnv : StrsAre nv (namesOf na nb)) (hna : 1 ≤ na ∧ na ≤ 3) (hnb : 1 ≤ nb ∧ nb ≤ 3) (hcn : cnt = 3 + (na : Int))
    (hpr : (pr, listOf pv.toArray e) ∈ nw) (hps : PairsIn nw pv ps) (hpl : 1 ≤ ps.length ∧ ps.length ≤ 7) (hpo : PsOk cnt (nv.length : Int) ps)
    (hm1 : m (Str.ofString "rules") = some (.ref rl)) (hrl : (rl, listOf rv.toArray re) ∈ nw) (hru : RulesIn w.params nw rv ps) (hrv : rv.length = ps.length)
    (hQ : ∀ h' tk' m', Fr h₀ L h' m' → Q (.ret (.bool true)) { s with heap := h', toks := tk' }) :
    RestAt PySem.Challenge.rw_on0156_01.row.prog w ⟨none, d, some (envOfC (Str.ofString "law") (lawS w.params) L a cd :: outer), gs, u⟩ (lawB w.params 8) (envOfC (Str.ofString "law") (lawS w.params) L a cd) Q s := by
  rw [map_known hm1] at F
  have hnl := strs_len hnv
  have hnl2 := namesOf_len hna hnb
  have hgd : ∀ q ∈ ps, 0 ≤ q.1 ∧ q.1 < ((namesOf na nb).length : Int) ∧ q.2.length ≤ 10 := fun q hq => by
    obtain ⟨h1, h2, h3, _⟩ := hpo.2 q hq
    exact ⟨h1, by omega, by omega⟩
  obtain ⟨S0, hS⟩ : ∃ S, S = lawS w.params := ⟨_, rfl⟩
  obtain ⟨B0, hB⟩ : ∃ S, S = lawB w.params 8 := ⟨_, rfl⟩
  rw [← hS, ← hB]
  revert B F X₀ T
  w_top off
  k_fill
  intro B F X₀ T
  conv at hS => rhs; whnf
  conv at hB => rhs; whnf
  subst hS
  subst hB
  refine execs_one ?_
  k_fold
  k_steps
  refine' Mine.init_spec ?kB ?kF ?kX ?kN ?hlt ?hlt2 ?kT ?khf ?khk ?khd ?khu ?hn ?hns ?hz ?hr ?hrl ?hrz ?hru ?hgd ?_; (case kF => k_asm); (case kB => k_asm); (case kX => k_asm); (case kN => k_asm); (case kT => k_asm); (case khf => first | exact rfl | assumption); (case khk => first | exact rfl | assumption); (case khd => exact (by show d + 1 < 590; omega)); (case khu => exact (by show u + 1 < 4900; omega)); (case hlt2 => assumption); (case hn => k_mem); (case hns => assumption); (case hz => omega); (case hr => k_mem); (case hrl => assumption); (case hrz => omega);  (case hlt => (refine List.forall_mem_cons.mpr ⟨?_, Mine.allLt_mem ?_⟩ <;> repeat (first | assumption | (rename (_ ∧ _) => hcj9; cases hcj9)))); (case hru => exact Mine.RulesIn.mono (by assumption) (fun q hq => List.mem_cons_of_mem _ hq)); (case hgd => assumption)
  intro h' tk' nw' F' N' hsub hG
  dsimp only [InitBack]
  refine ⟨rfl, ?_⟩
  try dsimp only
  replace hsub : ∀ q ∈ nw, q ∈ nw' := fun q hq => hsub q (List.mem_cons_of_mem _ hq)
  k_steps
  rename Fr _ _ _ _ => F9
  rename News _ _ _ _ => N9
  exact law9 B F9 X₀ T hd hu N9 (hsub _ hc2) (hsub _ hc3) (hsub _ hc4) (hsub _ hc5) d2 d3 d4 d5 (hsub _ han) hnv hna hnb hcn (hsub _ hpr) (hps.mono hsub) hpl hpo rfl hG hQ
end

end Mine
theorem Mine.rows_12 : True := by
  k_with_none
  (k_with "k_mem" => first | with_reducible assumption | exact List.mem_cons_self | (refine' List.mem_cons_of_mem _ ?_; k_mem))
  (k_with "k_all" => first | with_reducible assumption | exact Mine.offL_ne _ _ | exact Mine.allLt_ne (by assumption) | exact Mine.ltAll_ne (by assumption))
  (k_with "k_ne" => (refine neN ?_; (try dsimp only); first | assumption | exact Ne.symm (by assumption) | exact Nat.ne_of_lt (by assumption) | exact Nat.ne_of_gt (by assumption)))
  (k_with "k_room" => ((try simp only [depth_under_make, depth_under_kw, depth_in1, depth_deeper, depth_caller]); (have hrl9 : recursionLimit = 1000 := by rfl); (try dsimp only); omega))
  (k_with "k_units" => ((have hcL9 := cLine_is); (try simp only [units_in1, units_deeper, Around.mark_units, units_caller]); (try dsimp only); omega))
  (k_with "mok" => (all_goals first | (fail_if_success (with_reducible show (_ : Prop))) | (with_reducible show wpAny _ _ _ _ _ _) | (fail_if_success (fail_if_success intro _))))
  (k_with "mc" => (try any_goals ((with_reducible show Fr _ _ _ _); k_asm)); (try any_goals ((with_reducible show (_ : Prop)); (fail_if_success (with_reducible show wpAny _ _ _ _ _ _)); first | k_mem | k_asm | (intro vz8 nz8; k_upd) | ((fail_if_success intro _); first | exact rfl | ((with_reducible show (_ : Nat) < _); first | k_room | k_units) | ((try rw [sizeLine_eq]); (try simp only [List.size_toArray, List.length_append, List.length_cons, List.length_nil, Array.length_toList, List.length_replicate]); omega) | exact News.isList (by k_asm) (by k_mem) | exact News.isTup (by k_asm) (by k_mem) | k_upd))); k_extra "mok")
  (k_with "me" => ((try dsimp only); (try k_sweep)))
  (k_with "ment" => (try any_goals ((with_reducible show Below _ _ _ _); k_asm)); (try any_goals ((with_reducible show Fr _ _ _ _); k_asm)); (try any_goals ((with_reducible show Frag.In _ _); k_asm)); (try any_goals ((with_reducible show News _ _ _ _); k_asm)); (try any_goals ((with_reducible show Top _ _ _ _ _ _); k_asm)); (try any_goals ((with_reducible show (_ : Option _) = _); k_is)); (try any_goals ((with_reducible show codeIn _ _ _ = _); k_is)); (try any_goals ((with_reducible show (_ : Nat) < _); k_room)); (try any_goals ((with_reducible show BindsTo _ _ _ _); first | exact BindsTo.of_eq rfl | exact binds_K (by k_in) rfl (by k_is) rfl rfl rfl | fail "k_enter: no rule for these arguments")))
  (k_with "k_enter" => (refine' code_def ?_ ?_ ?_ ?_ ?_ (by exact rfl) (by first | exact rfl | assumption) (by first | exact rfl | assumption) ?_ ?_ ?_ ?_ ?_ ?_ ?_ ?_ ?_ ?_; k_extra "ment"; (try any_goals ((with_reducible show (_ : Bool) = _); exact rfl)); (try any_goals ((with_reducible show (_ : ScopeKind) = _); exact rfl)); (any_goals exact locs rfl); (any_goals ((with_reducible show ∀ x ∈ Scope.names _, _); decide)); k_extra "mok"; k_whole; intro _ _ _ _ _ _ Bz9 _ _; (try dsimp only); (try k_lift Bz9); (try k_fold)))
  (k_with "k_enter" => (refine' code_defC ?_ ?_ ?_ ?_ ?_ (by exact rfl) (by first | exact rfl | assumption) (by first | exact rfl | assumption) ?_ ?_ ?_ ?_ ?_ ?_ ?_ ?_ ?_ ?_; k_extra "ment"; (try any_goals ((with_reducible show (_ : Bool) = _); exact rfl)); (try any_goals ((with_reducible show (_ : ScopeKind) = _); exact rfl)); (any_goals ((with_reducible show List.Nodup _); decide +kernel)); k_extra "mok"; k_whole; intro _ _ _ _ _ _ _ Nz9 Yz9 Bz9 _ _ lz9; (try k_lt lz9); k_cells Yz9; (try simp only [List.cons_append, List.nil_append] at Nz9); (try dsimp only); (try k_lift Bz9); (try k_fold)))
  (k_with "k_enter" => ((with_reducible refine' Mine.gAt 138 ?_); refine' Mine.take_specU ?_ ?_ ?_ ?_ ?_ ?_ ?_ ?_ ?_ ?_ ?_ ?_ ?_ ?_; k_extra "mc"; intro _ _ _ _ _ _ _ _ _ _ _ _; k_extra "me"))
  (k_with "call builtin:len" => (k_here; (with_reducible show wpAny _ _ (call (Value.builtin "len") [Value.ref _]) _ _ _); k_dflt (first | (refine Mine.len_led (by k_asm) (by k_mem) (by (simp only [List.size_toArray]; omega)) ?_; k_whole; (try simp only [List.size_toArray])) | (refine Mine.lent_led (by k_asm) (by k_mem) (by (simp only [List.size_toArray]; omega)) ?_; k_whole; (try simp only [List.size_toArray])))))
  (k_with "subscriptTail" => (k_here; (with_reducible show wpAny _ _ (subscriptTail _ _ (Value.ref _) (Value.int _ _)) _ _ _); k_dflt (first | (refine Mine.item_led (by k_asm) (by k_mem) (by omega) (by with_reducible assumption) (by omega) ?_; k_whole) | (refine Mine.itemt_led (by k_asm) (by k_mem) (by omega) (by with_reducible assumption) (by omega) ?_; k_whole))))
  (k_with "compareOp In" => (k_here; (with_reducible show wpAny _ _ (compareOp CmpOp.In (Value.str _ _) (Value.ref _)) _ _ _); k_dflt (refine Mine.in_strs (by k_asm) (by k_mem) (by with_reducible assumption) ?_; k_whole)))
  (k_with "call builtin:list.index" => (k_here; (with_reducible show wpAny _ _ (call (Value.builtin _) [Value.ref _, Value.str _ _]) _ _ _); k_dflt (refine Mine.index_strs (by k_asm) (by k_mem) (by with_reducible assumption) (by omega) (by first | assumption | (simp_all; done)) ?_; k_whole)))
  (k_with "call type:list" => (k_here; (with_reducible show wpAny _ _ (call (Value.type _) [Value.ref _]) _ _ _); (with_unfolding_all first | (refine list_copyK (by k_asm) (by k_asm) (by exact News.isList (by k_asm) (by k_mem)) ?_ (by (rw [sizeLine_eq]; simp only [List.size_toArray]; omega)); k_whole) | (refine list_copyKT (by k_asm) (by k_asm) (by exact News.isTup (by k_asm) (by k_mem)) ?_ (by (rw [sizeLine_eq]; simp only [List.size_toArray]; omega)); k_whole)); intro _ _ _ _ _ lz9; (try k_lt lz9); (try k_sweep)))
  (k_with "binaryOp Add ref ref" => (k_here; (with_reducible show wpAny _ _ (binaryOp _ (Value.ref _) (Value.ref _)) _ _ _); k_dflt (refine' Mine.add_led ?_ ?_ ?_ ?_ ?_ ?_; k_extra "mc"); intro _ _ _ _ lz9; (try k_lt lz9); (try k_sweep)))
  (k_with "binaryOp Add str str" => (k_here; (with_reducible show wpAny _ _ (binaryOp _ (Value.str _ _) (Value.str _ _)) _ _ _); k_dflt (refine PyProof.Rows.add_str ?_ (by with_reducible assumption)); intro _ _))
  (k_with "k_enter" => ((with_reducible refine' Mine.gAt 55 ?_); refine' Mine.symbolCount_spec ?_ ?_ ?_ ?_ ?_ ?_ ?_ ?_ ?_ ?_ ?_ ?_ ?_ ?_; k_extra "mc"; intro _ _ _ _ _; k_extra "me"))
  (k_with "k_enter" => ((with_reducible refine' Mine.gAt 62 ?_); refine' Mine.isTerminal_spec ?_ ?_ ?_ ?_ ?_ ?_ ?_ ?_ ?_ ?_ ?_ ?_; k_extra "mc"; intro _ _ _ _; k_extra "me"))
  (k_with "k_enter" => ((with_reducible refine' Mine.gAt 69 ?_); refine' Mine.isMiddle_spec ?_ ?_ ?_ ?_ ?_ ?_ ?_ ?_ ?_ ?_ ?_ ?_ ?_ ?_ ?_ ?_ ?_; k_extra "mc"; intro _ _ _ _; k_extra "me"))
  (k_with "k_enter" => ((with_reducible refine' Mine.gAt 76 ?_); refine' Mine.number_spec ?_ ?_ ?_ ?_ ?_ ?_ ?_ ?_ ?_ ?_ ?_ ?_ ?_ ?_ ?_ ?_; k_extra "mc"; intro _ _ _ _ _ _ _; k_extra "me"))
  (k_with "k_enter" => ((with_reducible refine' Mine.gAt 83 ?_); refine' Mine.rulesOf_spec ?_ ?_ ?_ ?_ ?_ ?_ ?_ ?_ ?_ ?_ ?_ ?_ ?_ ?_ ?_ ?_ ?_ ?_ ?_; k_extra "mc"; intro _ _ _ _ _ _ lz9; (try k_lt lz9); k_extra "me"))
  (k_with "k_enter" => ((with_reducible refine' Mine.gAt 90 ?_); refine' Mine.item_spec ?_ ?_ ?_ ?_ ?_ ?_ ?_ ?_ ?_ ?_ ?_ ?_ ?_ ?_ ?_ ?_; k_extra "mc"; intro _ _ _ _ _; k_extra "me"))
  (k_with "k_enter" => ((with_reducible refine' Mine.gAt 97 ?_); refine' Mine.ruleOf_spec ?_ ?_ ?_ ?_ ?_ ?_ ?_ ?_ ?_ ?_ ?_ ?_ ?_ ?_ ?_ ?_; k_extra "mc"; intro _ _ _ _ _; k_extra "me"))
  (k_with "k_enter" => ((with_reducible refine' Mine.gAt 104 ?_); refine' Mine.dotOf_spec ?_ ?_ ?_ ?_ ?_ ?_ ?_ ?_ ?_ ?_ ?_ ?_ ?_ ?_ ?_ ?_ ?_ ?_ ?_ ?_; k_extra "mc"; intro _ _ _ _ _; k_extra "me"))
  (k_with "k_enter" => ((with_reducible refine' Mine.gAt 111 ?_); refine' Mine.after_spec ?_ ?_ ?_ ?_ ?_ ?_ ?_ ?_ ?_ ?_ ?_ ?_ ?_ ?_ ?_ ?_ ?_ ?_ ?_ ?_ ?_ ?_ ?_ ?_ ?_ ?_ ?_ ?_ ?_; k_extra "mc"; intro _ _ _ _ _ _ _; k_extra "me"))
  (k_with "k_enter" => ((with_reducible refine' Mine.gAt 143 ?_); refine' Mine.lawShown_spec ?_ ?_ ?_ ?_ ?_ ?_ ?_ ?_ ?_ ?_ ?_ ?_ ?_ ?_ ?_ ?_ ?_ ?_ ?_; k_extra "mc"; intro _ _ _ _ _; k_extra "me"))
  (k_with "k_enter" => ((with_reducible refine' Mine.g3 ?_); refine' Mine.showRule_spec ?_ ?_ ?_ ?_ ?_ ?_ ?_ ?_ ?_ ?_ ?_ ?_ ?_ ?_ ?_ ?_ ?_ ?_ ?_ ?_ ?_ ?_ ?_ ?_ ?_ ?_ ?_ ?_; k_extra "mc"; intro _ _ _ _ _; k_extra "me"))
  (k_with "k_enter" => ((with_reducible refine' Mine.g2 ?_); refine' Mine.showRule0_spec ?_ ?_ ?_ ?_ ?_ ?_ ?_ ?_ ?_ ?_ ?_ ?_ ?_ ?_ ?_ ?_ ?_ ?_ ?_ ?_ ?_ ?_ ?_ ?_ ?_ ?_ ?_; k_extra "mc"; intro _ _ _ _ _; k_extra "me"))
  (k_with "k_enter" => ((with_reducible refine' Mine.gAt 131 ?_); refine' Mine.showItem_spec ?_ ?_ ?_ ?_ ?_ ?_ ?_ ?_ ?_ ?_ ?_ ?_ ?_ ?_ ?_ ?_ ?_ ?_ ?_ ?_ ?_ ?_ ?_ ?_ ?_ ?_ ?_ ?_ ?_ ?_ ?_ ?_ ?_ ?_ ?_; k_extra "mc"; intro _ _ _ _ _; k_extra "me"))
  (k_with "exec For Name Attribute cons nil" => (k_here; (with_unfolding_all refine Mine.for_mine (by k_asm) (by exact rfl) (by exact rfl) ?_; k_whole)))
  (k_with "exec For Name Call cons nil" => (k_here; (with_unfolding_all refine Mine.for_mine (by k_asm) (by exact rfl) (by exact rfl) ?_; k_whole)))
  (k_with "call type:range" => (k_here; (with_reducible show wpAny _ _ (call _ [Value.int _ _]) _ _ _); k_dflt (refine range1_rows (by k_asm) (by k_asm) ?_); intro _ _ _ _ _ _ _ _ _; (try k_sweep)))
  (k_with "call builtin:list.append" => (k_here; (with_reducible show wpAny _ _ (call (Value.builtin _) [Value.ref _, _]) _ _ _); k_dflt (refine Mine.append_led (by k_asm) (by k_asm) (by k_upd) (by omega) ?_); intro _ _ _; (try k_sweep)))
  (k_with "call builtin:list.extend" => (k_here; (with_reducible show wpAny _ _ (call (Value.builtin _) [Value.ref _, Value.ref _]) _ _ _); k_dflt (refine Mine.extend_led (by k_asm) (by k_asm) (by k_mem) (by ((try simp only [List.length_replicate]); omega)) (by k_upd) (by omega) (by ((try simp only [List.length_replicate]); omega)) ?_); intro _ _ _; (try k_sweep)))
  (k_with "binaryOp Mult ref int" => (k_here; k_dflt (refine Mine.mul_one_led (by k_asm) (by k_asm) (by k_mem) (by omega) (by omega) ?_); intro _ _ _ _ lz9; (try k_lt lz9); (try k_sweep)))
  (k_with "call type:tuple" => (k_here; (with_reducible show wpAny _ _ (call (Value.type _) [Value.ref _]) _ _ _); k_dflt (refine kde_tupleOf (by k_asm) (by k_asm) (by exact News.isList (by k_asm) (by k_mem)) (by ((try simp only [List.size_toArray]); omega)) (by rfl) ?_; k_whole); intro _ _ _ _ lz9; (try k_lt lz9); (try k_sweep)))
  (k_with "exec Assign cons ListComp" => (k_here; k_dflt (refine Mine.assign_comp_mine (by k_asm) (by rfl) (by with_unfolding_all rfl) (by rfl) (by decide) (by rfl) (by decide) (by rfl) (by rfl) (by rfl) ?_)))
  (k_with "k_all" => exact Mine.allLt_ne (by repeat (first | assumption | (rename (_ ∧ _) => hcj9; cases hcj9))))
  trivial
namespace Mine
theorem RulesIn.snoc {P : Params} {news : List (Addr × Obj)} {rv : List Value} {ps : List (Int × List Int)} {j : Nat} {l : Int} {r : List Int} (h : RulesIn P news rv (ps.take j)) (hj : ps[j]? = some (l, r)) (hl : rv.length = j)
    {x xd tp : Addr} {kr tr : Nat → Tok} {tv : List Value} {te : Nat} (h2 : (x, instObj 32 xd) ∈ news) (h3 : (xd, dictOf (ruleD P kr (j : Nat) l tp tr) 7) ∈ news) (h4 : (tp, tupOf (List.toArray tv) te) ∈ news) (h5 : IntsAre tv r) :
    RulesIn P news (rv ++ [Value.ref x]) (ps.take (j + 1)) := by
  have hlt : j < ps.length := by
    rcases Nat.lt_or_ge j ps.length with h1 | h1
    · exact h1
    · rw [List.getElem?_eq_none h1] at hj; cases hj
  intro i l' r' e
  rw [List.getElem?_take] at e
  split at e
  · rename_i hi
    rcases Nat.lt_or_ge i j with h1 | h1
    · obtain ⟨x', xd', tp', kr', tr', tv', te', a1, a2⟩ := h i l' r' (by rw [List.getElem?_take, if_pos h1]; exact e)
      exact ⟨x', xd', tp', kr', tr', tv', te', by rw [List.getElem?_append_left (by omega)]; exact a1, a2⟩
    · obtain rfl : i = j := by omega
      rw [hj] at e
      injection e with e
      injection e with e1 e2
      subst e1 e2
      exact ⟨x, xd, tp, kr, tr, tv, te, by rw [List.getElem?_append_right (by omega), hl, Nat.sub_self]; rfl, h2, h3, h4, h5⟩
  · cases e
theorem rule_end {P : Params} {h₀ h' : Heap} {L I C D x xd tp : Addr} {oI oC oD : Obj} {m : Str → Option Value} {nw fam : List (Addr × Obj)} {kr tr : Nat → Tok} {j tk : Nat} {l : Int} {r : List Int} {tv ys : List Value} {te : Nat} {ps : List (Int × List Int)} {s₁ : Shared}
    (F : Fr h₀ L h' m) (N : News h₀ L h' ((x, instObj 32 xd) :: (xd, dictOf (ruleD P kr (j : Nat) l tp tr) 7) :: (I, oI) :: (C, oC) :: (D, oD) :: fam))
    (hA : (@LT.lt Nat instLTNat I xd) ∧ (@LT.lt Nat instLTNat C xd) ∧ (@LT.lt Nat instLTNat D xd) ∧ AllLt xd fam) (hB : @LT.lt Nat instLTNat xd x) (off : LCg.Off3 I C D fam)
    (f1 : ∀ q ∈ nw, q ∈ fam) (f2 : RulesIn P fam ys (ps.take j)) (f3 : ys.length = j) (hj : ps[j]? = some (l, r)) (h4 : (tp, tupOf (List.toArray tv) te) ∈ fam) (h5 : IntsAre tv r) :
    LCg.CompEnd h₀ L m s₁ I oI C oC D oD (fun _ => True) (fun y news' => (∀ q ∈ nw, q ∈ news') ∧ RulesIn P news' (ys ++ [y]) (ps.take (j + 1)) ∧ (ys ++ [y]).length = j + 1) (Value.ref x) { s₁ with heap := h', toks := tk } := by
  refine LCg.CompEnd.intro F N ((x, instObj 32 xd) :: (xd, dictOf (ruleD P kr (j : Nat) l tp tr) 7) :: fam) (fun q hq => ?_) ⟨⟨?_, ?_, ?_⟩, ⟨Nat.ne_of_gt hA.1, Nat.ne_of_gt hA.2.1, Nat.ne_of_gt hA.2.2.1⟩, off⟩ trivial
    ⟨fun q hq => List.mem_cons_of_mem _ (List.mem_cons_of_mem _ (f1 q hq)), RulesIn.snoc (f2.mono fun q hq => List.mem_cons_of_mem _ (List.mem_cons_of_mem _ hq)) hj f3 List.mem_cons_self (List.mem_cons_of_mem _ List.mem_cons_self) (List.mem_cons_of_mem _ (List.mem_cons_of_mem _ h4)) h5, by rw [List.length_append, f3]; rfl⟩
  · simp only [List.mem_cons] at hq ⊢
    rcases hq with h | h | h | h | h | h <;> simp [h]
  · exact Nat.ne_of_gt (Nat.lt_trans hA.1 hB)
  · exact Nat.ne_of_gt (Nat.lt_trans hA.2.1 hB)
  · exact Nat.ne_of_gt (Nat.lt_trans hA.2.2.1 hB)
section
variable {w : World} {d u : Nat} {outer : List Env} {gs : Option (List Code)} {L a : Addr} {cd : Value} {h₀ base : Heap} {m : Str → Option Value}
    {mg mb : Str → Option Value} {mean : ExcName → Option Value} {A₀ : Around} {s : Shared} {Q : Flow → Shared → Prop}

theorem law7 {an pr : Addr} {nv pv : List Value} {en e : Nat} {na nb : Nat} {c2 c3 c4 c5 : Obj} {cnt : Int} {tc : Tok} {ps : List (Int × List Int)} {nw : List (Addr × Obj)} (B : Below A₀ base outer h₀) (F : Fr h₀ L s.heap m) (X₀ : (Mine.hd.heap_39 w.params).In h₀)
    (T : Top Mine.hd.view_39 (looseW Mine.hd.view_39 [Str.ofString "show_rule"]) mean mg mb h₀) (hd : d < 500) (hu : u < 4000)
    (N : News h₀ L s.heap nw) (hc2 : (L + 1 + 1, c2) ∈ nw) (hc3 : (L + 1 + 1 + 1, c3) ∈ nw) (hc4 : (L + 1 + 1 + 1 + 1, c4) ∈ nw) (hc5 : (L + 1 + 1 + 1 + 1 + 1, c5) ∈ nw)
    (d2 : c2.data = .cell (some (.ref an))) (d3 : c3.data = .cell (some (.int cnt tc))) (d4 : c4.data = .cell (some (.ref pr))) (d5 : c5.data = .cell none)
    (han : (an, listOf nv.toArray en) ∈ nw) (hnv : StrsAre nv (namesOf na nb)) (hna : 1 ≤ na ∧ na ≤ 3) (hnb : 1 ≤ nb ∧ nb ≤ 3) (hcn : cnt = 3 + (na : Int))
    (hpr : (pr, listOf pv.toArray e) ∈ nw) (hps : PairsIn nw pv ps) (hpl : 1 ≤ ps.length ∧ ps.length ≤ 7) (hpo : PsOk cnt (nv.length : Int) ps)
    (hQ : ∀ h' tk' m', Fr h₀ L h' m' → Q (.ret (.bool true)) { s with heap := h', toks := tk' }) :
    RestAt PySem.Challenge.rw_on0156_01.row.prog w ⟨none, d, some (envOfC (Str.ofString "law") (lawS w.params) L a cd :: outer), gs, u⟩ (lawB w.params 7) (envOfC (Str.ofString "law") (lawS w.params) L a cd) Q s := by
  have hpl9 := hps.1
  obtain ⟨S0, hS⟩ : ∃ S, S = lawS w.params := ⟨_, rfl⟩
  obtain ⟨B0, hB⟩ : ∃ S, S = lawB w.params 7 := ⟨_, rfl⟩
  rw [← hS, ← hB]
  revert B F X₀ T
  w_top off
  k_fill
  intro B F X₀ T
  conv at hS => rhs; whnf
  conv at hB => rhs; whnf
  subst hS
  subst hB
  refine execs_one ?_
  k_fold
  k_steps
  rename IsRange _ _ _ _ _ _ _ _ => R9
  rename Fr _ _ _ _ => F9
  rename News _ _ _ _ => N9
  unfold CompAt
  refine LCg.CompSrc.range (n := pv.length) rfl F9 N9 R9 (small_one (by omega) (by omega) (by omega) (by omega)) (range_size _) (by rw [sizeLine_eq]; omega) ?_
  intro g8
  refine rest_ind (fun j ys nw' => (∀ q ∈ nw, q ∈ nw') ∧ RulesIn w.params nw' ys (ps.take j) ∧ ys.length = j) ?_ ?_ _ 0 [] _ (Nat.zero_add _) ⟨fun q hq => hq, fun i l r h => by simp at h, rfl⟩
  · rintro j ys fam v I2 oI2 C oC D m₂ h' tk' E' hj ⟨f1, f2, f3⟩ ⟨t9, rfl⟩ hC hx F' N' off' ne'
    obtain ⟨oe1, oe2, oe3⟩ := ne'
    rw [Int.zero_add] at hx
    obtain ⟨l, r, hlr⟩ : ∃ l r, ps[j]? = some (l, r) := by
      have : j < ps.length := by omega
      exact ⟨ps[j].1, ps[j].2, by simp [this]⟩
    obtain ⟨a9, ta, tl, tv, e7, e8, g1, g2, g3, g4⟩ := hps.2 j l r hlr
    have g1' : pv[((j : Nat) : Int).toNat]? = some (.ref a9) := g1
    replace hc4 := f1 _ hc4
    replace hpr := f1 _ hpr
    replace g2 := f1 _ g2
    replace g3 := f1 _ g3
    clear F9 N9 R9 hps
    k_steps
    rename Fr _ _ _ _ => F9
    rename News _ _ _ _ => N9
    rename (I2 < _ ∧ C < _ ∧ D < _ ∧ _) => lA
    refine' rule_end (kr := fun i => List.getD [_, _, _, _, _, _, _] i 0) (tr := fun i => List.getD [_, _] i 0) F9 N9 lA (by assumption) off' f1 f2 f3 hlr g3 g4
  · rintro ys fam ⟨f1, f2, f3⟩
    unfold LCg.FinA
    intro D' h' tk' F' N' o1'
    refine ⟨rfl, ?_⟩
    rw [hpl9, List.take_length] at f2
    exact law8 (rv := ys) B F' X₀ T hd hu N' (List.mem_cons_of_mem _ (f1 _ hc2)) (List.mem_cons_of_mem _ (f1 _ hc3)) (List.mem_cons_of_mem _ (f1 _ hc4)) (List.mem_cons_of_mem _ (f1 _ hc5)) d2 d3 d4 d5 (List.mem_cons_of_mem _ (f1 _ han)) hnv hna hnb hcn
      (List.mem_cons_of_mem _ (f1 _ hpr)) (hps.mono fun q hq => List.mem_cons_of_mem _ (f1 q hq)) hpl hpo rfl List.mem_cons_self (f2.mono fun q hq => List.mem_cons_of_mem _ hq) (by omega) hQ
end

end Mine
theorem Mine.rows_13 : True := by
  k_with_none
  (k_with "k_mem" => first | with_reducible assumption | exact List.mem_cons_self | (refine' List.mem_cons_of_mem _ ?_; k_mem))
  (k_with "k_all" => first | with_reducible assumption | exact Mine.offL_ne _ _ | exact Mine.allLt_ne (by assumption) | exact Mine.ltAll_ne (by assumption))
  (k_with "k_ne" => (refine neN ?_; (try dsimp only); first | assumption | exact Ne.symm (by assumption) | exact Nat.ne_of_lt (by assumption) | exact Nat.ne_of_gt (by assumption)))
  (k_with "k_room" => ((try simp only [depth_under_make, depth_under_kw, depth_in1, depth_deeper, depth_caller]); (have hrl9 : recursionLimit = 1000 := by rfl); (try dsimp only); omega))
  (k_with "k_units" => ((have hcL9 := cLine_is); (try simp only [units_in1, units_deeper, Around.mark_units, units_caller]); (try dsimp only); omega))
  (k_with "mok" => (all_goals first | (fail_if_success (with_reducible show (_ : Prop))) | (with_reducible show wpAny _ _ _ _ _ _) | (fail_if_success (fail_if_success intro _))))
  (k_with "mc" => (try any_goals ((with_reducible show Fr _ _ _ _); k_asm)); (try any_goals ((with_reducible show (_ : Prop)); (fail_if_success (with_reducible show wpAny _ _ _ _ _ _)); first | k_mem | k_asm | (intro vz8 nz8; k_upd) | ((fail_if_success intro _); first | exact rfl | ((with_reducible show (_ : Nat) < _); first | k_room | k_units) | ((try rw [sizeLine_eq]); (try simp only [List.size_toArray, List.length_append, List.length_cons, List.length_nil, Array.length_toList, List.length_replicate]); omega) | exact News.isList (by k_asm) (by k_mem) | exact News.isTup (by k_asm) (by k_mem) | k_upd))); k_extra "mok")
  (k_with "me" => ((try dsimp only); (try k_sweep)))
  (k_with "ment" => (try any_goals ((with_reducible show Below _ _ _ _); k_asm)); (try any_goals ((with_reducible show Fr _ _ _ _); k_asm)); (try any_goals ((with_reducible show Frag.In _ _); k_asm)); (try any_goals ((with_reducible show News _ _ _ _); k_asm)); (try any_goals ((with_reducible show Top _ _ _ _ _ _); k_asm)); (try any_goals ((with_reducible show (_ : Option _) = _); k_is)); (try any_goals ((with_reducible show codeIn _ _ _ = _); k_is)); (try any_goals ((with_reducible show (_ : Nat) < _); k_room)); (try any_goals ((with_reducible show BindsTo _ _ _ _); first | exact BindsTo.of_eq rfl | exact binds_K (by k_in) rfl (by k_is) rfl rfl rfl | fail "k_enter: no rule for these arguments")))
  (k_with "k_enter" => (refine' code_def ?_ ?_ ?_ ?_ ?_ (by exact rfl) (by first | exact rfl | assumption) (by first | exact rfl | assumption) ?_ ?_ ?_ ?_ ?_ ?_ ?_ ?_ ?_ ?_; k_extra "ment"; (try any_goals ((with_reducible show (_ : Bool) = _); exact rfl)); (try any_goals ((with_reducible show (_ : ScopeKind) = _); exact rfl)); (any_goals exact locs rfl); (any_goals ((with_reducible show ∀ x ∈ Scope.names _, _); decide)); k_extra "mok"; k_whole; intro _ _ _ _ _ _ Bz9 _ _; (try dsimp only); (try k_lift Bz9); (try k_fold)))
  (k_with "k_enter" => (refine' code_defC ?_ ?_ ?_ ?_ ?_ (by exact rfl) (by first | exact rfl | assumption) (by first | exact rfl | assumption) ?_ ?_ ?_ ?_ ?_ ?_ ?_ ?_ ?_ ?_; k_extra "ment"; (try any_goals ((with_reducible show (_ : Bool) = _); exact rfl)); (try any_goals ((with_reducible show (_ : ScopeKind) = _); exact rfl)); (any_goals ((with_reducible show List.Nodup _); decide +kernel)); k_extra "mok"; k_whole; intro _ _ _ _ _ _ _ Nz9 Yz9 Bz9 _ _ lz9; (try k_lt lz9); k_cells Yz9; (try simp only [List.cons_append, List.nil_append] at Nz9); (try dsimp only); (try k_lift Bz9); (try k_fold)))
  (k_with "k_enter" => ((with_reducible refine' Mine.gAt 138 ?_); refine' Mine.take_specU ?_ ?_ ?_ ?_ ?_ ?_ ?_ ?_ ?_ ?_ ?_ ?_ ?_ ?_; k_extra "mc"; intro _ _ _ _ _ _ _ _ _ _ _ _; k_extra "me"))
  (k_with "call builtin:len" => (k_here; (with_reducible show wpAny _ _ (call (Value.builtin "len") [Value.ref _]) _ _ _); k_dflt (first | (refine Mine.len_led (by k_asm) (by k_mem) (by (simp only [List.size_toArray]; omega)) ?_; k_whole; (try simp only [List.size_toArray])) | (refine Mine.lent_led (by k_asm) (by k_mem) (by (simp only [List.size_toArray]; omega)) ?_; k_whole; (try simp only [List.size_toArray])))))
  (k_with "subscriptTail" => (k_here; (with_reducible show wpAny _ _ (subscriptTail _ _ (Value.ref _) (Value.int _ _)) _ _ _); k_dflt (first | (refine Mine.item_led (by k_asm) (by k_mem) (by omega) (by with_reducible assumption) (by omega) ?_; k_whole) | (refine Mine.itemt_led (by k_asm) (by k_mem) (by omega) (by with_reducible assumption) (by omega) ?_; k_whole))))
  (k_with "compareOp In" => (k_here; (with_reducible show wpAny _ _ (compareOp CmpOp.In (Value.str _ _) (Value.ref _)) _ _ _); k_dflt (refine Mine.in_strs (by k_asm) (by k_mem) (by with_reducible assumption) ?_; k_whole)))
  (k_with "call builtin:list.index" => (k_here; (with_reducible show wpAny _ _ (call (Value.builtin _) [Value.ref _, Value.str _ _]) _ _ _); k_dflt (refine Mine.index_strs (by k_asm) (by k_mem) (by with_reducible assumption) (by omega) (by first | assumption | (simp_all; done)) ?_; k_whole)))
  (k_with "call type:list" => (k_here; (with_reducible show wpAny _ _ (call (Value.type _) [Value.ref _]) _ _ _); (with_unfolding_all first | (refine list_copyK (by k_asm) (by k_asm) (by exact News.isList (by k_asm) (by k_mem)) ?_ (by (rw [sizeLine_eq]; simp only [List.size_toArray]; omega)); k_whole) | (refine list_copyKT (by k_asm) (by k_asm) (by exact News.isTup (by k_asm) (by k_mem)) ?_ (by (rw [sizeLine_eq]; simp only [List.size_toArray]; omega)); k_whole)); intro _ _ _ _ _ lz9; (try k_lt lz9); (try k_sweep)))
  (k_with "binaryOp Add ref ref" => (k_here; (with_reducible show wpAny _ _ (binaryOp _ (Value.ref _) (Value.ref _)) _ _ _); k_dflt (refine' Mine.add_led ?_ ?_ ?_ ?_ ?_ ?_; k_extra "mc"); intro _ _ _ _ lz9; (try k_lt lz9); (try k_sweep)))
  (k_with "binaryOp Add str str" => (k_here; (with_reducible show wpAny _ _ (binaryOp _ (Value.str _ _) (Value.str _ _)) _ _ _); k_dflt (refine PyProof.Rows.add_str ?_ (by with_reducible assumption)); intro _ _))
  (k_with "k_enter" => ((with_reducible refine' Mine.gAt 55 ?_); refine' Mine.symbolCount_spec ?_ ?_ ?_ ?_ ?_ ?_ ?_ ?_ ?_ ?_ ?_ ?_ ?_ ?_; k_extra "mc"; intro _ _ _ _ _; k_extra "me"))
  (k_with "k_enter" => ((with_reducible refine' Mine.gAt 62 ?_); refine' Mine.isTerminal_spec ?_ ?_ ?_ ?_ ?_ ?_ ?_ ?_ ?_ ?_ ?_ ?_; k_extra "mc"; intro _ _ _ _; k_extra "me"))
  (k_with "k_enter" => ((with_reducible refine' Mine.gAt 69 ?_); refine' Mine.isMiddle_spec ?_ ?_ ?_ ?_ ?_ ?_ ?_ ?_ ?_ ?_ ?_ ?_ ?_ ?_ ?_ ?_ ?_; k_extra "mc"; intro _ _ _ _; k_extra "me"))
  (k_with "k_enter" => ((with_reducible refine' Mine.gAt 76 ?_); refine' Mine.number_spec ?_ ?_ ?_ ?_ ?_ ?_ ?_ ?_ ?_ ?_ ?_ ?_ ?_ ?_ ?_ ?_; k_extra "mc"; intro _ _ _ _ _ _ _; k_extra "me"))
  (k_with "k_enter" => ((with_reducible refine' Mine.gAt 83 ?_); refine' Mine.rulesOf_spec ?_ ?_ ?_ ?_ ?_ ?_ ?_ ?_ ?_ ?_ ?_ ?_ ?_ ?_ ?_ ?_ ?_ ?_ ?_; k_extra "mc"; intro _ _ _ _ _ _ lz9; (try k_lt lz9); k_extra "me"))
  (k_with "k_enter" => ((with_reducible refine' Mine.gAt 90 ?_); refine' Mine.item_spec ?_ ?_ ?_ ?_ ?_ ?_ ?_ ?_ ?_ ?_ ?_ ?_ ?_ ?_ ?_ ?_; k_extra "mc"; intro _ _ _ _ _; k_extra "me"))
  (k_with "k_enter" => ((with_reducible refine' Mine.gAt 97 ?_); refine' Mine.ruleOf_spec ?_ ?_ ?_ ?_ ?_ ?_ ?_ ?_ ?_ ?_ ?_ ?_ ?_ ?_ ?_ ?_; k_extra "mc"; intro _ _ _ _ _; k_extra "me"))
  (k_with "k_enter" => ((with_reducible refine' Mine.gAt 104 ?_); refine' Mine.dotOf_spec ?_ ?_ ?_ ?_ ?_ ?_ ?_ ?_ ?_ ?_ ?_ ?_ ?_ ?_ ?_ ?_ ?_ ?_ ?_ ?_; k_extra "mc"; intro _ _ _ _ _; k_extra "me"))
  (k_with "k_enter" => ((with_reducible refine' Mine.gAt 111 ?_); refine' Mine.after_spec ?_ ?_ ?_ ?_ ?_ ?_ ?_ ?_ ?_ ?_ ?_ ?_ ?_ ?_ ?_ ?_ ?_ ?_ ?_ ?_ ?_ ?_ ?_ ?_ ?_ ?_ ?_ ?_ ?_; k_extra "mc"; intro _ _ _ _ _ _ _; k_extra "me"))
  (k_with "k_enter" => ((with_reducible refine' Mine.gAt 143 ?_); refine' Mine.lawShown_spec ?_ ?_ ?_ ?_ ?_ ?_ ?_ ?_ ?_ ?_ ?_ ?_ ?_ ?_ ?_ ?_ ?_ ?_ ?_; k_extra "mc"; intro _ _ _ _ _; k_extra "me"))
  (k_with "k_enter" => ((with_reducible refine' Mine.g3 ?_); refine' Mine.showRule_spec ?_ ?_ ?_ ?_ ?_ ?_ ?_ ?_ ?_ ?_ ?_ ?_ ?_ ?_ ?_ ?_ ?_ ?_ ?_ ?_ ?_ ?_ ?_ ?_ ?_ ?_ ?_ ?_; k_extra "mc"; intro _ _ _ _ _; k_extra "me"))
  (k_with "k_enter" => ((with_reducible refine' Mine.g2 ?_); refine' Mine.showRule0_spec ?_ ?_ ?_ ?_ ?_ ?_ ?_ ?_ ?_ ?_ ?_ ?_ ?_ ?_ ?_ ?_ ?_ ?_ ?_ ?_ ?_ ?_ ?_ ?_ ?_ ?_ ?_; k_extra "mc"; intro _ _ _ _ _; k_extra "me"))
  (k_with "k_enter" => ((with_reducible refine' Mine.gAt 131 ?_); refine' Mine.showItem_spec ?_ ?_ ?_ ?_ ?_ ?_ ?_ ?_ ?_ ?_ ?_ ?_ ?_ ?_ ?_ ?_ ?_ ?_ ?_ ?_ ?_ ?_ ?_ ?_ ?_ ?_ ?_ ?_ ?_ ?_ ?_ ?_ ?_ ?_ ?_; k_extra "mc"; intro _ _ _ _ _; k_extra "me"))
  (k_with "exec For Name Attribute cons nil" => (k_here; (with_unfolding_all refine Mine.for_mine (by k_asm) (by exact rfl) (by exact rfl) ?_; k_whole)))
  (k_with "exec For Name Call cons nil" => (k_here; (with_unfolding_all refine Mine.for_mine (by k_asm) (by exact rfl) (by exact rfl) ?_; k_whole)))
  (k_with "call type:range" => (k_here; (with_reducible show wpAny _ _ (call _ [Value.int _ _]) _ _ _); k_dflt (refine range1_rows (by k_asm) (by k_asm) ?_); intro _ _ _ _ _ _ _ _ _; (try k_sweep)))
  (k_with "call builtin:list.append" => (k_here; (with_reducible show wpAny _ _ (call (Value.builtin _) [Value.ref _, _]) _ _ _); k_dflt (refine Mine.append_led (by k_asm) (by k_asm) (by k_upd) (by omega) ?_); intro _ _ _; (try k_sweep)))
  (k_with "call builtin:list.extend" => (k_here; (with_reducible show wpAny _ _ (call (Value.builtin _) [Value.ref _, Value.ref _]) _ _ _); k_dflt (refine Mine.extend_led (by k_asm) (by k_asm) (by k_mem) (by ((try simp only [List.length_replicate]); omega)) (by k_upd) (by omega) (by ((try simp only [List.length_replicate]); omega)) ?_); intro _ _ _; (try k_sweep)))
  (k_with "binaryOp Mult ref int" => (k_here; k_dflt (refine Mine.mul_one_led (by k_asm) (by k_asm) (by k_mem) (by omega) (by omega) ?_); intro _ _ _ _ lz9; (try k_lt lz9); (try k_sweep)))
  (k_with "call type:tuple" => (k_here; (with_reducible show wpAny _ _ (call (Value.type _) [Value.ref _]) _ _ _); k_dflt (refine kde_tupleOf (by k_asm) (by k_asm) (by exact News.isList (by k_asm) (by k_mem)) (by ((try simp only [List.size_toArray]); omega)) (by rfl) ?_; k_whole); intro _ _ _ _ lz9; (try k_lt lz9); (try k_sweep)))
  (k_with "eval ListComp" => (k_here; k_dflt (refine Mine.listcomp_mine (by k_asm) (by rfl) (by decide) (by rfl) (by decide) (by rfl) ?_)))
  (k_with "exec Assign cons ListComp" => (k_here; k_dflt (refine Mine.assign_comp_mine (by k_asm) (by rfl) (by with_unfolding_all rfl) (by rfl) (by decide) (by rfl) (by decide) (by rfl) (by rfl) (by rfl) ?_)))
  trivial
namespace Mine
/-- what holds between two turns of the law's building loop -/
def PairsJ (rest : List (Addr × Obj)) (p pr bo : Addr) (cnt len : Int) (i : Nat) (m : Str → Option Value) (nw : List (Addr × Obj)) : Prop :=
  ∃ vs n ns pv e ps rest', nw = (p, listOf (List.toArray vs) n) :: (pr, listOf (List.toArray pv) e) :: rest' ∧ (∀ q ∈ rest, q ∈ rest') ∧ (∀ q ∈ rest', q.1 ≠ p) ∧ (∀ q ∈ rest', q.1 ≠ pr) ∧
    IntsAre vs ns ∧ PoolOk ns ∧ PairsIn rest' pv ps ∧ ps.length = i + 1 ∧ PsOk cnt len ps ∧ m (Str.ofString "others") = some (Value.ref bo)
theorem left_lo {cnt y : Int} (h : 0 ≤ y) : cnt < cnt + 1 + y := by omega
theorem left_hi {cnt y n b : Int} (h : n = cnt + 1 + b) (h2 : y < b) : cnt + 1 + y < n := by omega
theorem pairs_end {rest rest1 : List (Addr × Obj)} {h₀ h' : Heap} {L I p pr bo D1 D2 : Addr} {oI : Obj} {x3 x4 : Addr × Obj} {vs pv tv : List Value} {n e e1 e2 : Nat} {ns qs : List Int} {ps : List (Int × List Int)} {cnt len l : Int} {tl : Tok} {i tk : Nat} {m' : Str → Option Value} {s₁ : Shared} {Q : Flow → Shared → Prop}
    (F : Fr h₀ L h' m') (N : News h₀ L h' ((D1, tupOf #[Value.int l tl, Value.ref D2] e1) :: (D2, tupOf (List.toArray tv) e2) :: x3 :: x4 :: (I, oI) :: (p, listOf (List.toArray vs) n) :: (pr, listOf (List.toArray (pv ++ [Value.ref D1])) e) :: rest1))
    (nI1 : p ≠ I) (nI2 : pr ≠ I) (hI3 : ∀ q ∈ rest1, q.1 ≠ I) (n1 : D1 ≠ I ∧ D1 ≠ p ∧ D1 ≠ pr) (n2 : D2 ≠ I ∧ D2 ≠ p ∧ D2 ≠ pr)
    (f1 : ∀ q ∈ rest, q ∈ rest1) (f2 : ∀ q ∈ rest1, q.1 ≠ p) (f3 : ∀ q ∈ rest1, q.1 ≠ pr) (gi : IntsAre vs ns) (gk : PoolOk ns) (f6 : PairsIn rest1 pv ps) (f7 : ps.length = i + 1) (f8 : PsOk cnt len ps)
    (h0 : 0 ≤ cnt) (h1 : cnt < l) (h2 : l < len) (hq : IntsAre tv qs) (h3 : qs.length ≤ 3) (h4 : ∀ x ∈ qs, 0 ≤ x ∧ x < len) (hmo : m' (Str.ofString "others") = some (Value.ref bo)) :
    TurnEnd h₀ L I oI (PairsJ rest p pr bo cnt len (i + 1)) s₁ Q .next { s₁ with heap := h', toks := tk } := by
  refine ⟨h', tk, m', (p, listOf (List.toArray vs) n) :: (pr, listOf (List.toArray (pv ++ [Value.ref D1])) e) :: (D1, tupOf #[Value.int l tl, Value.ref D2] e1) :: (D2, tupOf (List.toArray tv) e2) :: rest1, rfl, F, news_sub N fun q hq => ?_, fun q hq => ?_, ?_⟩
  · simp only [List.mem_cons] at hq ⊢
    rcases hq with h | h | h | h | h | h <;> simp [h]
  · simp only [List.mem_cons] at hq
    rcases hq with rfl | rfl | rfl | rfl | h
    · exact nI1
    · exact nI2
    · exact n1.1
    · exact n2.1
    · exact hI3 q h
  · refine ⟨vs, n, ns, _, e, ps ++ [(l, qs)], (D1, tupOf #[Value.int l tl, Value.ref D2] e1) :: (D2, tupOf (List.toArray tv) e2) :: rest1, rfl, fun q hq => List.mem_cons_of_mem _ (List.mem_cons_of_mem _ (f1 q hq)), ?_, ?_, gi, gk, ?_, by rw [List.length_append, f7]; rfl, f8.snoc h0 h1 h2 h3 h4, hmo⟩
    · intro q hq
      rcases List.mem_cons.mp hq with rfl | hq
      · exact n1.2.1
      rcases List.mem_cons.mp hq with rfl | hq
      · exact n2.2.1
      exact f2 q hq
    · intro q hq
      rcases List.mem_cons.mp hq with rfl | hq
      · exact n1.2.2
      rcases List.mem_cons.mp hq with rfl | hq
      · exact n2.2.2
      exact f3 q hq
    · exact PairsIn.snoc (f6.mono fun q hq => List.mem_cons_of_mem _ (List.mem_cons_of_mem _ hq)) List.mem_cons_self (List.mem_cons_of_mem _ List.mem_cons_self) hq
section
variable {w : World} {d u : Nat} {outer : List Env} {gs : Option (List Code)} {L a : Addr} {cd : Value} {h₀ base : Heap} {m : Str → Option Value}
    {mg mb : Str → Option Value} {mean : ExcName → Option Value} {A₀ : Around} {s : Shared} {Q : Flow → Shared → Prop}

theorem law6 {bo an p pr : Addr} {bv nv vs pv : List Value} {eb en n e : Nat} {ns : List Int} {c1 c2 c3 c4 c5 : Obj} {cnt : Int} {tc : Tok} {ps : List (Int × List Int)} {rest : List (Addr × Obj)} {na nb : Nat} (B : Below A₀ base outer h₀) (F : Fr h₀ L s.heap m) (X₀ : (Mine.hd.heap_39 w.params).In h₀)
    (T : Top Mine.hd.view_39 (looseW Mine.hd.view_39 [Str.ofString "show_rule"]) mean mg mb h₀) (hd : d < 500) (hu : u < 4000)
    (N : News h₀ L s.heap ((p, listOf vs.toArray n) :: (pr, listOf pv.toArray e) :: rest)) (hrp : ∀ q ∈ rest, q.1 ≠ p) (hrr : ∀ q ∈ rest, q.1 ≠ pr) (npr : p ≠ pr)
    (hc1 : (L + 1, c1) ∈ rest) (hc2 : (L + 1 + 1, c2) ∈ rest) (hc3 : (L + 1 + 1 + 1, c3) ∈ rest) (hc4 : (L + 1 + 1 + 1 + 1, c4) ∈ rest) (hc5 : (L + 1 + 1 + 1 + 1 + 1, c5) ∈ rest)
    (d1 : c1.data = .cell (some (.ref p))) (d2 : c2.data = .cell (some (.ref an))) (d3 : c3.data = .cell (some (.int cnt tc))) (d4 : c4.data = .cell (some (.ref pr))) (d5 : c5.data = .cell none)
    (hm2 : m (Str.ofString "others") = some (.ref bo)) (hbo : (bo, listOf bv.toArray eb) ∈ rest) (han : (an, listOf nv.toArray en) ∈ rest)
    (hi : IntsAre vs ns) (hok : PoolOk ns) (hna : 1 ≤ na ∧ na ≤ 3) (hnb : 1 ≤ nb ∧ nb ≤ 3) (hbl : bv.length = nb) (hnames : StrsAre nv (namesOf na nb)) (hcn : cnt = 3 + (na : Int)) (hps : PairsIn rest pv ps) (hpl : ps.length = 1) (hpo : PsOk cnt (nv.length : Int) ps)
    (hQ : ∀ h' tk' m', Fr h₀ L h' m' → Q (.ret (.bool true)) { s with heap := h', toks := tk' }) :
    RestAt PySem.Challenge.rw_on0156_01.row.prog w ⟨none, d, some (envOfC (Str.ofString "law") (lawS w.params) L a cd :: outer), gs, u⟩ (lawB w.params 6) (envOfC (Str.ofString "law") (lawS w.params) L a cd) Q s := by
  replace npr := neN npr
  have hnv : (nv.length : Int) = cnt + 1 + bv.length := by
    have h1 := strs_len hnames
    have h2 := namesOf_len hna hnb
    omega
  have hbv : 1 ≤ bv.length ∧ bv.length ≤ 3 := by omega
  have hcnt : 3 ≤ cnt ∧ cnt ≤ 6 := by omega
  rw [map_known hm2] at F
  obtain ⟨S0, hS⟩ : ∃ S, S = lawS w.params := ⟨_, rfl⟩
  obtain ⟨B0, hB⟩ : ∃ S, S = lawB w.params 6 := ⟨_, rfl⟩
  rw [← hS, ← hB]
  revert B F X₀ T
  w_top off
  k_fill
  intro B F X₀ T
  conv at hS => rhs; whnf
  conv at hB => rhs; whnf
  subst hS
  subst hB
  refine execs_one ?_
  k_fold
  k_steps
  rename IsRange _ _ _ _ _ _ _ _ => R9
  rename Fr _ _ _ _ => F9
  rename News _ _ _ _ => N9
  rename (0 ≤ (_ : Int)) => g0
  rename ((_ : Int) < 7) => g1
  rename IntsAre _ _ => gi
  rename PoolOk _ => gk
  obtain ⟨n9, hn9⟩ := Int.eq_ofNat_of_zero_le g0
  refine iter_rangeJ (n := n9) (PairsJ rest p pr bo cnt (nv.length : Int)) rfl R9 hn9 (by omega) F9 N9 ⟨_, _, _, _, _, _, rest, rfl, fun q hq => hq, hrp, hrr, gi, gk, hps, hpl, hpo, rfl⟩ ?_ ?_
  · rintro i tk₀ m₁ nw hh tk I oI hi9 ⟨vs1, n1, ns1, pv1, e1, ps1, rest1, rfl, f1, f2, f3, f4, f5, f6, f7, f8, hmo⟩ hI F₁ N₁
    rw [map_known hmo] at F₁
    have f6l := f6.1
    have nI1 := neN (hI _ List.mem_cons_self)
    have nI2 := neN (hI _ (List.mem_cons_of_mem _ List.mem_cons_self))
    have hI3 : ∀ q ∈ rest1, q.1 ≠ I := fun q hq => hI q (List.mem_cons_of_mem _ (List.mem_cons_of_mem _ hq))
    replace hc1 := f1 _ hc1
    replace hc2 := f1 _ hc2
    replace hc3 := f1 _ hc3
    replace hc4 := f1 _ hc4
    replace hbo := f1 _ hbo
    replace han := f1 _ han
    clear F9 N9 R9 hps hpo gi gk hi hok hI
    k_steps
    rename IsRange _ _ _ _ _ _ _ _ => R9
    rename Fr _ _ _ _ => F9
    rename News _ _ _ _ => N9
    rename (0 ≤ (_ : Int)) => g0
    rename ((_ : Int) < 4) => g1
    rename IntsAre _ _ => gi
    rename PoolOk _ => gk
    have hfm : ∀ x : Int, 0 ≤ x.fmod (bv.length : Int) ∧ x.fmod (bv.length : Int) < (bv.length : Int) := fun x => by
      rw [Int.fmod_eq_emod_of_nonneg _ (by omega)]
      exact ⟨Int.emod_nonneg _ (by omega), Int.emod_lt_of_pos _ (by omega)⟩
    have hfn : ∀ x : Int, 0 ≤ x.fmod (nv.length : Int) ∧ x.fmod (nv.length : Int) < (nv.length : Int) := fun x => by
      rw [Int.fmod_eq_emod_of_nonneg _ (by omega)]
      exact ⟨Int.emod_nonneg _ (by omega), Int.emod_lt_of_pos _ (by omega)⟩
    obtain ⟨k9, hk9⟩ := Int.eq_ofNat_of_zero_le g0
    unfold CompAt
    refine LCg.CompSrc.range (n := k9) rfl F9 N9 R9 (by rw [hk9]; exact small_one (by omega) (by omega) (by omega) (by omega)) (by rw [hk9]; exact range_size k9) (by rw [sizeLine_eq]; omega) ?_
    intro g8
    refine rest_ind (fun j ys nw => ∃ vs n ns rs, nw = (I, oI) :: (p, listOf (List.toArray vs) n) :: (pr, listOf pv1.toArray e1) :: rest1 ∧ IntsAre vs ns ∧ PoolOk ns ∧ IntsAre ys rs ∧ rs.length = j ∧ ∀ x ∈ rs, 0 ≤ x ∧ x < (nv.length : Int)) ?_ ?_ _ 0 [] _ (Nat.zero_add _)
      ⟨_, _, _, [], rfl, gi, gk, .nil, rfl, fun x hx => (by cases hx)⟩
    · rintro j ys nw v I2 oI2 C oC D m₂ h' tk' E' hj ⟨vs2, n2, ns2, rs, rfl, k1, k2, k3, k4, k5⟩ ⟨t9, rfl⟩ hC hx F' N' off' ne'
      obtain ⟨⟨oa1, oa2, oa3⟩, ⟨ob1, ob2, ob3⟩, ⟨oc1, oc2, oc3⟩, od⟩ := id off'
      obtain ⟨oe1, oe2, oe3⟩ := ne'
      clear F9 N9 R9 gi gk
      k_steps
      rename Fr _ _ _ _ => F9
      rename News _ _ _ _ => N9
      rename IntsAre _ _ => gi
      rename PoolOk _ => gk
      refine LCg.CompEnd.intro F9 N9 _ (fun q hq => hq) ?_ trivial ⟨_, _, _, _, rfl, gi, gk, ints_append k3 (.cons _ _ .nil), by rw [List.length_append, k4]; rfl, fun x hx => ?_⟩
      · exact ⟨off'.1, off'.2.1, off'.2.2.1, od⟩
      · rcases List.mem_append.mp hx with hx | hx
        · exact k5 x hx
        · rw [List.mem_singleton.mp hx]; exact hfn _
    · rintro ys nw ⟨vs2, n2, ns2, rs, rfl, k1, k2, k3, k4, k5⟩
      unfold LCg.FinA
      intro D' h' tk' F' N' o1'
      obtain ⟨ob1, ob2, ob3, od⟩ := id o1'
      have od' := off1_ne od
      have k6 := k3.length
      clear F9 N9 R9 gi gk
      k_steps
      rename Fr _ _ _ _ => F9
      rename News _ _ _ _ => N9
      unfold CompAt
      refine LCg.CompSrc.ledger (its := ys.toArray) (k := ys.length) rfl F9 N9 (by k_mem) (by (rw [sizeLine_eq, List.size_toArray]; omega)) ?_
      intro g7
      refine rest_ind (fun j zs nw => nw = (D', LCg.lst ys) :: (I, oI) :: (p, listOf (List.toArray vs2) n2) :: (pr, listOf pv1.toArray e1) :: rest1 ∧ ∃ qs, IntsAre zs qs ∧ qs.length = j ∧ ∀ x ∈ qs, 0 ≤ x ∧ x < (nv.length : Int)) ?_ ?_ _ 0 [] _ (Nat.zero_add _)
        ⟨rfl, [], .nil, rfl, fun x hx => (by cases hx)⟩
      · rintro j zs nw v I2 oI2 C oC D m₂ h' tk' E' hj ⟨rfl, qs, l1, l2, l3⟩ hP hC hx F' N' off' ne'
        have hjr : j < rs.length := by simpa [k6] using hj
        obtain ⟨t9, hv9⟩ := k3.get j rs[j] (by simp [hjr])
        have hv : v = .int rs[j] t9 := by
          have h1 : ys[j]? = some v := by simpa using hP
          rw [hv9] at h1; exact (Option.some.inj h1).symm
        subst hv
        obtain ⟨hr0, hr1⟩ := k5 rs[j] (List.getElem_mem hjr)
        obtain ⟨oe1, oe2, oe3⟩ := ne'
        clear F9 N9
        k_steps
        all_goals (rename Fr _ _ _ _ => F9; rename News _ _ _ _ => N9)
        all_goals refine LCg.CompEnd.intro F9 N9 _ (fun q hq => List.mem_cons_of_mem _ hq) off' (.inr ⟨LCg.lst ys, List.mem_cons_self, rfl, _, rfl⟩) ⟨rfl, _, ints_append l1 (.cons _ _ .nil), by rw [List.length_append, l2]; rfl, fun x hx => ?_⟩
        all_goals
          rcases List.mem_append.mp hx with hx | hx
          · exact l3 x hx
          · rw [List.mem_singleton.mp hx]; omega
      · rintro zs nw ⟨rfl, qs, l1, l2, l3⟩
        walk_at "FinE"
        have l4 := l1.length
        rw [List.size_toArray] at l2
        clear F9 N9
        k_steps
        rename Fr _ _ _ _ => F9
        rename News _ _ _ _ => N9
        rename (_ ∧ _ ∧ D' < _ ∧ I < _ ∧ _) => lB
        rename (_ ∧ D' < _ ∧ I < _ ∧ _) => lA
        exact pairs_end F9 N9 nI1 nI2 hI3 ⟨Nat.ne_of_gt lB.2.2.2.1, Nat.ne_of_gt lB.2.2.2.2.1, Nat.ne_of_gt lB.2.2.2.2.2.1⟩ ⟨Nat.ne_of_gt lA.2.2.1, Nat.ne_of_gt lA.2.2.2.1, Nat.ne_of_gt lA.2.2.2.2.1⟩ f1 f2 f3 k1 k2 f6 f7 f8 (by omega) (left_lo (hfm _).1) (left_hi hnv (hfm _).2) l1 (by omega) l3 rfl
  · rintro m₁ nw hh tk ⟨vs1, n1, ns1, pv1, e1, ps1, rest1, rfl, f1, f2, f3, f4, f5, f6, f7, f8, hmo⟩ F₁ N₁
    refine ⟨rfl, ?_⟩
    exact law7 B F₁ X₀ T hd hu N₁ (List.mem_cons_of_mem _ (List.mem_cons_of_mem _ (f1 _ hc2))) (List.mem_cons_of_mem _ (List.mem_cons_of_mem _ (f1 _ hc3))) (List.mem_cons_of_mem _ (List.mem_cons_of_mem _ (f1 _ hc4))) (List.mem_cons_of_mem _ (List.mem_cons_of_mem _ (f1 _ hc5))) d2 d3 d4 d5
      (List.mem_cons_of_mem _ (List.mem_cons_of_mem _ (f1 _ han))) hnames hna hnb hcn (List.mem_cons_of_mem _ List.mem_cons_self) (f6.mono fun q hq => List.mem_cons_of_mem _ (List.mem_cons_of_mem _ hq)) (by omega) f8 hQ
end

end Mine
theorem Mine.rows_14 : True := by
  k_with_none
  (k_with "k_mem" => first | with_reducible assumption | exact List.mem_cons_self | (refine' List.mem_cons_of_mem _ ?_; k_mem))
  (k_with "k_all" => first | with_reducible assumption | exact Mine.offL_ne _ _ | exact Mine.allLt_ne (by assumption) | exact Mine.ltAll_ne (by assumption))
  (k_with "k_ne" => (refine neN ?_; (try dsimp only); first | assumption | exact Ne.symm (by assumption) | exact Nat.ne_of_lt (by assumption) | exact Nat.ne_of_gt (by assumption)))
  (k_with "k_room" => ((try simp only [depth_under_make, depth_under_kw, depth_in1, depth_deeper, depth_caller]); (have hrl9 : recursionLimit = 1000 := by rfl); (try dsimp only); omega))
  (k_with "k_units" => ((have hcL9 := cLine_is); (try simp only [units_in1, units_deeper, Around.mark_units, units_caller]); (try dsimp only); omega))
  (k_with "mok" => (all_goals first | (fail_if_success (with_reducible show (_ : Prop))) | (with_reducible show wpAny _ _ _ _ _ _) | (fail_if_success (fail_if_success intro _))))
  (k_with "mc" => (try any_goals ((with_reducible show Fr _ _ _ _); k_asm)); (try any_goals ((with_reducible show (_ : Prop)); (fail_if_success (with_reducible show wpAny _ _ _ _ _ _)); first | k_mem | k_asm | (intro vz8 nz8; k_upd) | ((fail_if_success intro _); first | exact rfl | ((with_reducible show (_ : Nat) < _); first | k_room | k_units) | ((try rw [sizeLine_eq]); (try simp only [List.size_toArray, List.length_append, List.length_cons, List.length_nil, Array.length_toList, List.length_replicate]); omega) | exact News.isList (by k_asm) (by k_mem) | exact News.isTup (by k_asm) (by k_mem) | k_upd))); k_extra "mok")
  (k_with "me" => ((try dsimp only); (try k_sweep)))
  (k_with "ment" => (try any_goals ((with_reducible show Below _ _ _ _); k_asm)); (try any_goals ((with_reducible show Fr _ _ _ _); k_asm)); (try any_goals ((with_reducible show Frag.In _ _); k_asm)); (try any_goals ((with_reducible show News _ _ _ _); k_asm)); (try any_goals ((with_reducible show Top _ _ _ _ _ _); k_asm)); (try any_goals ((with_reducible show (_ : Option _) = _); k_is)); (try any_goals ((with_reducible show codeIn _ _ _ = _); k_is)); (try any_goals ((with_reducible show (_ : Nat) < _); k_room)); (try any_goals ((with_reducible show BindsTo _ _ _ _); first | exact BindsTo.of_eq rfl | exact binds_K (by k_in) rfl (by k_is) rfl rfl rfl | fail "k_enter: no rule for these arguments")))
  (k_with "k_enter" => (refine' code_def ?_ ?_ ?_ ?_ ?_ (by exact rfl) (by first | exact rfl | assumption) (by first | exact rfl | assumption) ?_ ?_ ?_ ?_ ?_ ?_ ?_ ?_ ?_ ?_; k_extra "ment"; (try any_goals ((with_reducible show (_ : Bool) = _); exact rfl)); (try any_goals ((with_reducible show (_ : ScopeKind) = _); exact rfl)); (any_goals exact locs rfl); (any_goals ((with_reducible show ∀ x ∈ Scope.names _, _); decide)); k_extra "mok"; k_whole; intro _ _ _ _ _ _ Bz9 _ _; (try dsimp only); (try k_lift Bz9); (try k_fold)))
  (k_with "k_enter" => (refine' code_defC ?_ ?_ ?_ ?_ ?_ (by exact rfl) (by first | exact rfl | assumption) (by first | exact rfl | assumption) ?_ ?_ ?_ ?_ ?_ ?_ ?_ ?_ ?_ ?_; k_extra "ment"; (try any_goals ((with_reducible show (_ : Bool) = _); exact rfl)); (try any_goals ((with_reducible show (_ : ScopeKind) = _); exact rfl)); (any_goals ((with_reducible show List.Nodup _); decide +kernel)); k_extra "mok"; k_whole; intro _ _ _ _ _ _ _ Nz9 Yz9 Bz9 _ _ lz9; (try k_lt lz9); k_cells Yz9; (try simp only [List.cons_append, List.nil_append] at Nz9); (try dsimp only); (try k_lift Bz9); (try k_fold)))
  (k_with "k_enter" => ((with_reducible refine' Mine.gAt 138 ?_); refine' Mine.take_specU ?_ ?_ ?_ ?_ ?_ ?_ ?_ ?_ ?_ ?_ ?_ ?_ ?_ ?_; k_extra "mc"; intro _ _ _ _ _ _ _ _ _ _ _ _; k_extra "me"))
  (k_with "call builtin:len" => (k_here; (with_reducible show wpAny _ _ (call (Value.builtin "len") [Value.ref _]) _ _ _); k_dflt (first | (refine Mine.len_led (by k_asm) (by k_mem) (by (simp only [List.size_toArray]; omega)) ?_; k_whole; (try simp only [List.size_toArray])) | (refine Mine.lent_led (by k_asm) (by k_mem) (by (simp only [List.size_toArray]; omega)) ?_; k_whole; (try simp only [List.size_toArray])))))
  (k_with "subscriptTail" => (k_here; (with_reducible show wpAny _ _ (subscriptTail _ _ (Value.ref _) (Value.int _ _)) _ _ _); k_dflt (first | (refine Mine.item_led (by k_asm) (by k_mem) (by omega) (by with_reducible assumption) (by omega) ?_; k_whole) | (refine Mine.itemt_led (by k_asm) (by k_mem) (by omega) (by with_reducible assumption) (by omega) ?_; k_whole))))
  (k_with "compareOp In" => (k_here; (with_reducible show wpAny _ _ (compareOp CmpOp.In (Value.str _ _) (Value.ref _)) _ _ _); k_dflt (refine Mine.in_strs (by k_asm) (by k_mem) (by with_reducible assumption) ?_; k_whole)))
  (k_with "call builtin:list.index" => (k_here; (with_reducible show wpAny _ _ (call (Value.builtin _) [Value.ref _, Value.str _ _]) _ _ _); k_dflt (refine Mine.index_strs (by k_asm) (by k_mem) (by with_reducible assumption) (by omega) (by first | assumption | (simp_all; done)) ?_; k_whole)))
  (k_with "call type:list" => (k_here; (with_reducible show wpAny _ _ (call (Value.type _) [Value.ref _]) _ _ _); (with_unfolding_all first | (refine list_copyK (by k_asm) (by k_asm) (by exact News.isList (by k_asm) (by k_mem)) ?_ (by (rw [sizeLine_eq]; simp only [List.size_toArray]; omega)); k_whole) | (refine list_copyKT (by k_asm) (by k_asm) (by exact News.isTup (by k_asm) (by k_mem)) ?_ (by (rw [sizeLine_eq]; simp only [List.size_toArray]; omega)); k_whole)); intro _ _ _ _ _ lz9; (try k_lt lz9); (try k_sweep)))
  (k_with "binaryOp Add ref ref" => (k_here; (with_reducible show wpAny _ _ (binaryOp _ (Value.ref _) (Value.ref _)) _ _ _); k_dflt (refine' Mine.add_led ?_ ?_ ?_ ?_ ?_ ?_; k_extra "mc"); intro _ _ _ _ lz9; (try k_lt lz9); (try k_sweep)))
  (k_with "binaryOp Add str str" => (k_here; (with_reducible show wpAny _ _ (binaryOp _ (Value.str _ _) (Value.str _ _)) _ _ _); k_dflt (refine PyProof.Rows.add_str ?_ (by with_reducible assumption)); intro _ _))
  (k_with "k_enter" => ((with_reducible refine' Mine.gAt 55 ?_); refine' Mine.symbolCount_spec ?_ ?_ ?_ ?_ ?_ ?_ ?_ ?_ ?_ ?_ ?_ ?_ ?_ ?_; k_extra "mc"; intro _ _ _ _ _; k_extra "me"))
  (k_with "k_enter" => ((with_reducible refine' Mine.gAt 62 ?_); refine' Mine.isTerminal_spec ?_ ?_ ?_ ?_ ?_ ?_ ?_ ?_ ?_ ?_ ?_ ?_; k_extra "mc"; intro _ _ _ _; k_extra "me"))
  (k_with "k_enter" => ((with_reducible refine' Mine.gAt 69 ?_); refine' Mine.isMiddle_spec ?_ ?_ ?_ ?_ ?_ ?_ ?_ ?_ ?_ ?_ ?_ ?_ ?_ ?_ ?_ ?_ ?_; k_extra "mc"; intro _ _ _ _; k_extra "me"))
  (k_with "k_enter" => ((with_reducible refine' Mine.gAt 76 ?_); refine' Mine.number_spec ?_ ?_ ?_ ?_ ?_ ?_ ?_ ?_ ?_ ?_ ?_ ?_ ?_ ?_ ?_ ?_; k_extra "mc"; intro _ _ _ _ _ _ _; k_extra "me"))
  (k_with "k_enter" => ((with_reducible refine' Mine.gAt 83 ?_); refine' Mine.rulesOf_spec ?_ ?_ ?_ ?_ ?_ ?_ ?_ ?_ ?_ ?_ ?_ ?_ ?_ ?_ ?_ ?_ ?_ ?_ ?_; k_extra "mc"; intro _ _ _ _ _ _ lz9; (try k_lt lz9); k_extra "me"))
  (k_with "k_enter" => ((with_reducible refine' Mine.gAt 90 ?_); refine' Mine.item_spec ?_ ?_ ?_ ?_ ?_ ?_ ?_ ?_ ?_ ?_ ?_ ?_ ?_ ?_ ?_ ?_; k_extra "mc"; intro _ _ _ _ _; k_extra "me"))
  (k_with "k_enter" => ((with_reducible refine' Mine.gAt 97 ?_); refine' Mine.ruleOf_spec ?_ ?_ ?_ ?_ ?_ ?_ ?_ ?_ ?_ ?_ ?_ ?_ ?_ ?_ ?_ ?_; k_extra "mc"; intro _ _ _ _ _; k_extra "me"))
  (k_with "k_enter" => ((with_reducible refine' Mine.gAt 104 ?_); refine' Mine.dotOf_spec ?_ ?_ ?_ ?_ ?_ ?_ ?_ ?_ ?_ ?_ ?_ ?_ ?_ ?_ ?_ ?_ ?_ ?_ ?_ ?_; k_extra "mc"; intro _ _ _ _ _; k_extra "me"))
  (k_with "k_enter" => ((with_reducible refine' Mine.gAt 111 ?_); refine' Mine.after_spec ?_ ?_ ?_ ?_ ?_ ?_ ?_ ?_ ?_ ?_ ?_ ?_ ?_ ?_ ?_ ?_ ?_ ?_ ?_ ?_ ?_ ?_ ?_ ?_ ?_ ?_ ?_ ?_ ?_; k_extra "mc"; intro _ _ _ _ _ _ _; k_extra "me"))
  (k_with "k_enter" => ((with_reducible refine' Mine.gAt 143 ?_); refine' Mine.lawShown_spec ?_ ?_ ?_ ?_ ?_ ?_ ?_ ?_ ?_ ?_ ?_ ?_ ?_ ?_ ?_ ?_ ?_ ?_ ?_; k_extra "mc"; intro _ _ _ _ _; k_extra "me"))
  (k_with "k_enter" => ((with_reducible refine' Mine.g3 ?_); refine' Mine.showRule_spec ?_ ?_ ?_ ?_ ?_ ?_ ?_ ?_ ?_ ?_ ?_ ?_ ?_ ?_ ?_ ?_ ?_ ?_ ?_ ?_ ?_ ?_ ?_ ?_ ?_ ?_ ?_ ?_; k_extra "mc"; intro _ _ _ _ _; k_extra "me"))
  (k_with "k_enter" => ((with_reducible refine' Mine.g2 ?_); refine' Mine.showRule0_spec ?_ ?_ ?_ ?_ ?_ ?_ ?_ ?_ ?_ ?_ ?_ ?_ ?_ ?_ ?_ ?_ ?_ ?_ ?_ ?_ ?_ ?_ ?_ ?_ ?_ ?_ ?_; k_extra "mc"; intro _ _ _ _ _; k_extra "me"))
  (k_with "k_enter" => ((with_reducible refine' Mine.gAt 131 ?_); refine' Mine.showItem_spec ?_ ?_ ?_ ?_ ?_ ?_ ?_ ?_ ?_ ?_ ?_ ?_ ?_ ?_ ?_ ?_ ?_ ?_ ?_ ?_ ?_ ?_ ?_ ?_ ?_ ?_ ?_ ?_ ?_ ?_ ?_ ?_ ?_ ?_ ?_; k_extra "mc"; intro _ _ _ _ _; k_extra "me"))
  (k_with "exec For Name Attribute cons nil" => (k_here; (with_unfolding_all refine Mine.for_mine (by k_asm) (by exact rfl) (by exact rfl) ?_; k_whole)))
  (k_with "exec For Name Call cons nil" => (k_here; (with_unfolding_all refine Mine.for_mine (by k_asm) (by exact rfl) (by exact rfl) ?_; k_whole)))
  (k_with "call type:range" => (k_here; (with_reducible show wpAny _ _ (call _ [Value.int _ _]) _ _ _); k_dflt (refine range1_rows (by k_asm) (by k_asm) ?_); intro _ _ _ _ _ _ _ _ _; (try k_sweep)))
  (k_with "call builtin:list.append" => (k_here; (with_reducible show wpAny _ _ (call (Value.builtin _) [Value.ref _, _]) _ _ _); k_dflt (refine Mine.append_led (by k_asm) (by k_asm) (by k_upd) (by omega) ?_); intro _ _ _; (try k_sweep)))
  (k_with "call builtin:list.extend" => (k_here; (with_reducible show wpAny _ _ (call (Value.builtin _) [Value.ref _, Value.ref _]) _ _ _); k_dflt (refine Mine.extend_led (by k_asm) (by k_asm) (by k_mem) (by ((try simp only [List.length_replicate]); omega)) (by k_upd) (by omega) (by ((try simp only [List.length_replicate]); omega)) ?_); intro _ _ _; (try k_sweep)))
  (k_with "binaryOp Mult ref int" => (k_here; k_dflt (refine Mine.mul_one_led (by k_asm) (by k_asm) (by k_mem) (by omega) (by omega) ?_); intro _ _ _ _ lz9; (try k_lt lz9); (try k_sweep)))
  (k_with "call type:tuple" => (k_here; (with_reducible show wpAny _ _ (call (Value.type _) [Value.ref _]) _ _ _); k_dflt (refine kde_tupleOf (by k_asm) (by k_asm) (by exact News.isList (by k_asm) (by k_mem)) (by ((try simp only [List.size_toArray]); omega)) (by rfl) ?_; k_whole); intro _ _ _ _ lz9; (try k_lt lz9); (try k_sweep)))
  trivial
namespace Mine
section
variable {w : World} {d u : Nat} {outer : List Env} {gs : Option (List Code)} {L a : Addr} {cd : Value} {h₀ base : Heap} {m : Str → Option Value}
    {mg mb : Str → Option Value} {mean : ExcName → Option Value} {A₀ : Around} {s : Shared} {Q : Flow → Shared → Prop}

theorem law4_end {ao bo an p l D1 D2 : Addr} {av bv nv vs : List Value} {ea eb en n : Nat} {ns : List Int} {na nb : Nat} {c1 c2 c3 c4 c5 : Obj} {t1 t2 t3 tc : Tok} (B : Below A₀ base outer h₀) (F : Fr h₀ L s.heap m) (X₀ : (Mine.hd.heap_39 w.params).In h₀)
    (T : Top Mine.hd.view_39 (looseW Mine.hd.view_39 [Str.ofString "show_rule"]) mean mg mb h₀) (hd : d < 500) (hu : u < 4000)
    (N : News h₀ L s.heap [(l, listOf #[Value.ref D1] 0), (D1, tupOf #[Value.int (3 + (av.length : Int)) t1, Value.ref D2] 0), (D2, tupOf #[Value.int (3 + (av.length : Int) + 1) t2, Value.int 0 t3] 0), (an, listOf nv.toArray en), (bo, listOf bv.toArray eb), (ao, listOf av.toArray ea), (p, listOf vs.toArray n), (L + 1 + 1 + 1 + 1 + 1, c5), (L + 1 + 1 + 1 + 1, c4), (L + 1 + 1 + 1, c3), (L + 1 + 1, c2), (L + 1, c1)])
    (o1 : (@LT.lt Nat instLTNat an D2) ∧ (@LT.lt Nat instLTNat bo D2) ∧ (@LT.lt Nat instLTNat ao D2) ∧ (@LT.lt Nat instLTNat p D2) ∧ (@LT.lt Nat instLTNat (L + 1 + 1 + 1 + 1 + 1) D2) ∧ (@LT.lt Nat instLTNat (L + 1 + 1 + 1 + 1) D2) ∧ (@LT.lt Nat instLTNat (L + 1 + 1 + 1) D2) ∧ (@LT.lt Nat instLTNat (L + 1 + 1) D2) ∧ (@LT.lt Nat instLTNat (L + 1) D2))
    (o2 : (@LT.lt Nat instLTNat D2 D1) ∧ (@LT.lt Nat instLTNat an D1) ∧ (@LT.lt Nat instLTNat bo D1) ∧ (@LT.lt Nat instLTNat ao D1) ∧ (@LT.lt Nat instLTNat p D1) ∧ (@LT.lt Nat instLTNat (L + 1 + 1 + 1 + 1 + 1) D1) ∧ (@LT.lt Nat instLTNat (L + 1 + 1 + 1 + 1) D1) ∧ (@LT.lt Nat instLTNat (L + 1 + 1 + 1) D1) ∧ (@LT.lt Nat instLTNat (L + 1 + 1) D1) ∧ (@LT.lt Nat instLTNat (L + 1) D1))
    (o3 : (@LT.lt Nat instLTNat D1 l) ∧ (@LT.lt Nat instLTNat D2 l) ∧ (@LT.lt Nat instLTNat an l) ∧ (@LT.lt Nat instLTNat bo l) ∧ (@LT.lt Nat instLTNat ao l) ∧ (@LT.lt Nat instLTNat p l) ∧ (@LT.lt Nat instLTNat (L + 1 + 1 + 1 + 1 + 1) l) ∧ (@LT.lt Nat instLTNat (L + 1 + 1 + 1 + 1) l) ∧ (@LT.lt Nat instLTNat (L + 1 + 1 + 1) l) ∧ (@LT.lt Nat instLTNat (L + 1 + 1) l) ∧ (@LT.lt Nat instLTNat (L + 1) l))
    (q4 : (@Ne Nat (L + 1 + 1 + 1 + 1 + 1) p) ∧ (@Ne Nat (L + 1 + 1 + 1 + 1) p) ∧ (@Ne Nat (L + 1 + 1 + 1) p) ∧ (@Ne Nat (L + 1 + 1) p) ∧ (@Ne Nat (L + 1) p)) (ne1 : an ≠ p) (ne2 : bo ≠ p)
    (d1 : c1.data = .cell (some (.ref p))) (d2 : c2.data = .cell (some (.ref an))) (d3 : c3.data = .cell (some (.int (3 + (av.length : Int)) tc))) (d4 : c4.data = .cell (some (.ref l))) (d5 : c5.data = .cell none)
    (hm2 : m (Str.ofString "others") = some (.ref bo))
    (hi : IntsAre vs ns) (hok : PoolOk ns) (hna : 1 ≤ na ∧ na ≤ 3) (hnb : 1 ≤ nb ∧ nb ≤ 3) (hav : av.length = na) (hbv : bv.length = nb) (hnv : StrsAre nv (namesOf na nb))
    (hQ : ∀ h' tk' m', Fr h₀ L h' m' → Q (.ret (.bool true)) { s with heap := h', toks := tk' }) :
    RestAt PySem.Challenge.rw_on0156_01.row.prog w ⟨none, d, some (envOfC (Str.ofString "law") (lawS w.params) L a cd :: outer), gs, u⟩ (lawB w.params 6) (envOfC (Str.ofString "law") (lawS w.params) L a cd) Q s := by
  have hnl := strs_len hnv
  have hnl2 := namesOf_len hna hnb
  have hN : News h₀ L s.heap ((p, listOf vs.toArray n) :: (l, listOf (List.toArray [Value.ref D1]) 0) :: [(D1, tupOf #[Value.int (3 + (av.length : Int)) t1, Value.ref D2] 0), (D2, tupOf #[Value.int (3 + (av.length : Int) + 1) t2, Value.int 0 t3] 0), (an, listOf nv.toArray en), (bo, listOf bv.toArray eb), (L + 1 + 1 + 1 + 1 + 1, c5), (L + 1 + 1 + 1 + 1, c4), (L + 1 + 1 + 1, c3), (L + 1 + 1, c2), (L + 1, c1)]) := by
    refine news_sub N fun q hq => ?_
    simp only [List.mem_cons] at hq
    rcases hq with rfl | rfl | rfl | rfl | rfl | rfl | rfl | rfl | rfl | rfl | rfl | h
    all_goals first | k_mem | (cases h)
  refine law6 (bo := bo) (an := an) (p := p) (pr := l) (cnt := 3 + (av.length : Int)) (tc := tc) (ps := [(3 + (av.length : Int), [3 + (av.length : Int) + 1, 0])]) B F X₀ T hd hu hN ?_ ?_ (Nat.ne_of_lt o3.2.2.2.2.2.1) (by k_mem) (by k_mem) (by k_mem) (by k_mem) (by k_mem) d1 d2 d3 d4 d5 hm2 (by k_mem) (by k_mem) hi hok hna hnb hbv hnv (by omega) ?_ rfl ?_ hQ
  · intro q hq
    simp only [List.mem_cons] at hq
    rcases hq with rfl | rfl | rfl | rfl | rfl | rfl | rfl | rfl | rfl | h
    · exact Nat.ne_of_gt o2.2.2.2.2.1
    · exact Nat.ne_of_gt o1.2.2.2.1
    · exact ne1
    · exact ne2
    · exact q4.1
    · exact q4.2.1
    · exact q4.2.2.1
    · exact q4.2.2.2.1
    · exact q4.2.2.2.2
    · cases h
  · intro q hq
    simp only [List.mem_cons] at hq
    rcases hq with rfl | rfl | rfl | rfl | rfl | rfl | rfl | rfl | rfl | h
    · exact Nat.ne_of_lt o3.1
    · exact Nat.ne_of_lt o3.2.1
    · exact Nat.ne_of_lt o3.2.2.1
    · exact Nat.ne_of_lt o3.2.2.2.1
    · exact Nat.ne_of_lt o3.2.2.2.2.2.2.1
    · exact Nat.ne_of_lt o3.2.2.2.2.2.2.2.1
    · exact Nat.ne_of_lt o3.2.2.2.2.2.2.2.2.1
    · exact Nat.ne_of_lt o3.2.2.2.2.2.2.2.2.2.1
    · exact Nat.ne_of_lt o3.2.2.2.2.2.2.2.2.2.2
    · cases h
  · refine ⟨rfl, fun i l' r' h => ?_⟩
    match i with
    | 0 =>
      simp at h
      obtain ⟨rfl, rfl⟩ := h
      exact ⟨D1, D2, t1, [Value.int (3 + (av.length : Int) + 1) t2, Value.int 0 t3], 0, 0, rfl, by k_mem, by k_mem, .cons _ _ (.cons _ _ .nil)⟩
    | i + 1 => simp at h
  · refine ⟨⟨_, [], rfl, fun q hq => (by cases hq)⟩, fun q hq => ?_⟩
    rw [List.mem_singleton.mp hq]
    refine ⟨by show (0 : Int) ≤ 3 + (av.length : Int); omega, by show 3 + (av.length : Int) < _; omega, by show (2 : Nat) ≤ 3; decide, fun x hx => ?_⟩
    simp only [List.mem_cons] at hx
    rcases hx with rfl | rfl | h
    · omega
    · omega
    · cases h
theorem law4 {ao bo an p : Addr} {av bv nv vs : List Value} {ea eb en n : Nat} {ns : List Int} {na nb : Nat} {c1 c2 c3 c4 c5 : Obj} (B : Below A₀ base outer h₀) (F : Fr h₀ L s.heap m) (X₀ : (Mine.hd.heap_39 w.params).In h₀)
    (T : Top Mine.hd.view_39 (looseW Mine.hd.view_39 [Str.ofString "show_rule"]) mean mg mb h₀) (hd : d < 500) (hu : u < 4000)
    (N : News h₀ L s.heap [(an, listOf nv.toArray en), (bo, listOf bv.toArray eb), (ao, listOf av.toArray ea), (p, listOf vs.toArray n), (L + 1 + 1 + 1 + 1 + 1, c5), (L + 1 + 1 + 1 + 1, c4), (L + 1 + 1 + 1, c3), (L + 1 + 1, c2), (L + 1, c1)])
    (q1 : L + 1 + 1 + 1 + 1 + 1 < an) (q2 : L + 1 + 1 + 1 + 1 + 1 < bo) (q3 : L + 1 + 1 + 1 + 1 + 1 < ao) (q4 : (@Ne Nat (L + 1 + 1 + 1 + 1 + 1) p) ∧ (@Ne Nat (L + 1 + 1 + 1 + 1) p) ∧ (@Ne Nat (L + 1 + 1 + 1) p) ∧ (@Ne Nat (L + 1 + 1) p) ∧ (@Ne Nat (L + 1) p)) (ne1 : an ≠ p) (ne2 : bo ≠ p)
    (d1 : c1.data = .cell (some (.ref p))) (d2 : c2.data = .cell (some (.ref an))) (d3 : c3.data = .cell none) (d4 : c4.data = .cell none) (d5 : c5.data = .cell none)
    (hm1 : m (Str.ofString "own") = some (.ref ao)) (hm2 : m (Str.ofString "others") = some (.ref bo))
    (hi : IntsAre vs ns) (hok : PoolOk ns) (hna : 1 ≤ na ∧ na ≤ 3) (hnb : 1 ≤ nb ∧ nb ≤ 3) (hav : av.length = na) (hbv : bv.length = nb) (hnv : StrsAre nv (namesOf na nb))
    (hQ : ∀ h' tk' m', Fr h₀ L h' m' → Q (.ret (.bool true)) { s with heap := h', toks := tk' }) :
    RestAt PySem.Challenge.rw_on0156_01.row.prog w ⟨none, d, some (envOfC (Str.ofString "law") (lawS w.params) L a cd :: outer), gs, u⟩ (lawB w.params 4) (envOfC (Str.ofString "law") (lawS w.params) L a cd) Q s := by
  replace q1 := ltN q1
  replace q2 := ltN q2
  replace q3 := ltN q3
  rw [map_known hm1, map_known hm2] at F
  obtain ⟨S0, hS⟩ : ∃ S, S = lawS w.params := ⟨_, rfl⟩
  obtain ⟨B0, hB⟩ : ∃ S, S = lawB w.params 4 := ⟨_, rfl⟩
  rw [← hS, ← hB]
  revert B F X₀ T
  w_top off
  k_fill
  intro B F X₀ T
  conv at hS => rhs; whnf
  conv at hB => rhs; whnf
  subst hS
  subst hB
  refine execs_one ?_
  k_fold
  k_steps
  refine execs_one ?_
  k_fold
  k_steps
  rename Fr _ _ _ _ => F9
  rename News _ _ _ _ => N9
  exact law4_end B F9 X₀ T hd hu N9 (by assumption) (by assumption) (by assumption) q4 ne1 ne2 d1 d2 (by assumption) (by assumption) d5 rfl hi hok hna hnb hav hbv hnv hQ
end

end Mine
theorem Mine.rows_15 : True := by
  k_with_none
  (k_with "k_mem" => first | with_reducible assumption | exact List.mem_cons_self | (refine' List.mem_cons_of_mem _ ?_; k_mem))
  (k_with "k_all" => first | with_reducible assumption | exact Mine.offL_ne _ _ | exact Mine.allLt_ne (by assumption) | exact Mine.ltAll_ne (by assumption))
  (k_with "k_ne" => (refine neN ?_; (try dsimp only); first | assumption | exact Ne.symm (by assumption) | exact Nat.ne_of_lt (by assumption) | exact Nat.ne_of_gt (by assumption)))
  (k_with "k_room" => ((try simp only [depth_under_make, depth_under_kw, depth_in1, depth_deeper, depth_caller]); (have hrl9 : recursionLimit = 1000 := by rfl); (try dsimp only); omega))
  (k_with "k_units" => ((have hcL9 := cLine_is); (try simp only [units_in1, units_deeper, Around.mark_units, units_caller]); (try dsimp only); omega))
  (k_with "mok" => (all_goals first | (fail_if_success (with_reducible show (_ : Prop))) | (with_reducible show wpAny _ _ _ _ _ _) | (fail_if_success (fail_if_success intro _))))
  (k_with "mc" => (try any_goals ((with_reducible show Fr _ _ _ _); k_asm)); (try any_goals ((with_reducible show (_ : Prop)); (fail_if_success (with_reducible show wpAny _ _ _ _ _ _)); first | k_mem | k_asm | (intro vz8 nz8; k_upd) | ((fail_if_success intro _); first | exact rfl | ((with_reducible show (_ : Nat) < _); first | k_room | k_units) | ((try rw [sizeLine_eq]); (try simp only [List.size_toArray, List.length_append, List.length_cons, List.length_nil, Array.length_toList, List.length_replicate]); omega) | exact News.isList (by k_asm) (by k_mem) | exact News.isTup (by k_asm) (by k_mem) | k_upd))); k_extra "mok")
  (k_with "me" => ((try dsimp only); (try k_sweep)))
  (k_with "ment" => (try any_goals ((with_reducible show Below _ _ _ _); k_asm)); (try any_goals ((with_reducible show Fr _ _ _ _); k_asm)); (try any_goals ((with_reducible show Frag.In _ _); k_asm)); (try any_goals ((with_reducible show News _ _ _ _); k_asm)); (try any_goals ((with_reducible show Top _ _ _ _ _ _); k_asm)); (try any_goals ((with_reducible show (_ : Option _) = _); k_is)); (try any_goals ((with_reducible show codeIn _ _ _ = _); k_is)); (try any_goals ((with_reducible show (_ : Nat) < _); k_room)); (try any_goals ((with_reducible show BindsTo _ _ _ _); first | exact BindsTo.of_eq rfl | exact binds_K (by k_in) rfl (by k_is) rfl rfl rfl | fail "k_enter: no rule for these arguments")))
  (k_with "k_enter" => (refine' code_def ?_ ?_ ?_ ?_ ?_ (by exact rfl) (by first | exact rfl | assumption) (by first | exact rfl | assumption) ?_ ?_ ?_ ?_ ?_ ?_ ?_ ?_ ?_ ?_; k_extra "ment"; (try any_goals ((with_reducible show (_ : Bool) = _); exact rfl)); (try any_goals ((with_reducible show (_ : ScopeKind) = _); exact rfl)); (any_goals exact locs rfl); (any_goals ((with_reducible show ∀ x ∈ Scope.names _, _); decide)); k_extra "mok"; k_whole; intro _ _ _ _ _ _ Bz9 _ _; (try dsimp only); (try k_lift Bz9); (try k_fold)))
  (k_with "k_enter" => (refine' code_defC ?_ ?_ ?_ ?_ ?_ (by exact rfl) (by first | exact rfl | assumption) (by first | exact rfl | assumption) ?_ ?_ ?_ ?_ ?_ ?_ ?_ ?_ ?_ ?_; k_extra "ment"; (try any_goals ((with_reducible show (_ : Bool) = _); exact rfl)); (try any_goals ((with_reducible show (_ : ScopeKind) = _); exact rfl)); (any_goals ((with_reducible show List.Nodup _); decide +kernel)); k_extra "mok"; k_whole; intro _ _ _ _ _ _ _ Nz9 Yz9 Bz9 _ _ lz9; (try k_lt lz9); k_cells Yz9; (try simp only [List.cons_append, List.nil_append] at Nz9); (try dsimp only); (try k_lift Bz9); (try k_fold)))
  (k_with "k_enter" => ((with_reducible refine' Mine.gAt 138 ?_); refine' Mine.take_specU ?_ ?_ ?_ ?_ ?_ ?_ ?_ ?_ ?_ ?_ ?_ ?_ ?_ ?_; k_extra "mc"; intro _ _ _ _ _ _ _ _ _ _ _ _; k_extra "me"))
  (k_with "call builtin:len" => (k_here; (with_reducible show wpAny _ _ (call (Value.builtin "len") [Value.ref _]) _ _ _); k_dflt (first | (refine Mine.len_led (by k_asm) (by k_mem) (by (simp only [List.size_toArray]; omega)) ?_; k_whole; (try simp only [List.size_toArray])) | (refine Mine.lent_led (by k_asm) (by k_mem) (by (simp only [List.size_toArray]; omega)) ?_; k_whole; (try simp only [List.size_toArray])))))
  (k_with "subscriptTail" => (k_here; (with_reducible show wpAny _ _ (subscriptTail _ _ (Value.ref _) (Value.int _ _)) _ _ _); k_dflt (first | (refine Mine.item_led (by k_asm) (by k_mem) (by omega) (by with_reducible assumption) (by omega) ?_; k_whole) | (refine Mine.itemt_led (by k_asm) (by k_mem) (by omega) (by with_reducible assumption) (by omega) ?_; k_whole))))
  (k_with "compareOp In" => (k_here; (with_reducible show wpAny _ _ (compareOp CmpOp.In (Value.str _ _) (Value.ref _)) _ _ _); k_dflt (refine Mine.in_strs (by k_asm) (by k_mem) (by with_reducible assumption) ?_; k_whole)))
  (k_with "call builtin:list.index" => (k_here; (with_reducible show wpAny _ _ (call (Value.builtin _) [Value.ref _, Value.str _ _]) _ _ _); k_dflt (refine Mine.index_strs (by k_asm) (by k_mem) (by with_reducible assumption) (by omega) (by first | assumption | (simp_all; done)) ?_; k_whole)))
  (k_with "call type:list" => (k_here; (with_reducible show wpAny _ _ (call (Value.type _) [Value.ref _]) _ _ _); (with_unfolding_all first | (refine list_copyK (by k_asm) (by k_asm) (by exact News.isList (by k_asm) (by k_mem)) ?_ (by (rw [sizeLine_eq]; simp only [List.size_toArray]; omega)); k_whole) | (refine list_copyKT (by k_asm) (by k_asm) (by exact News.isTup (by k_asm) (by k_mem)) ?_ (by (rw [sizeLine_eq]; simp only [List.size_toArray]; omega)); k_whole)); intro _ _ _ _ _ lz9; (try k_lt lz9); (try k_sweep)))
  (k_with "binaryOp Add ref ref" => (k_here; (with_reducible show wpAny _ _ (binaryOp _ (Value.ref _) (Value.ref _)) _ _ _); k_dflt (refine' Mine.add_led ?_ ?_ ?_ ?_ ?_ ?_; k_extra "mc"); intro _ _ _ _ lz9; (try k_lt lz9); (try k_sweep)))
  (k_with "binaryOp Add str str" => (k_here; (with_reducible show wpAny _ _ (binaryOp _ (Value.str _ _) (Value.str _ _)) _ _ _); k_dflt (refine PyProof.Rows.add_str ?_ (by with_reducible assumption)); intro _ _))
  (k_with "k_enter" => ((with_reducible refine' Mine.gAt 55 ?_); refine' Mine.symbolCount_spec ?_ ?_ ?_ ?_ ?_ ?_ ?_ ?_ ?_ ?_ ?_ ?_ ?_ ?_; k_extra "mc"; intro _ _ _ _ _; k_extra "me"))
  (k_with "k_enter" => ((with_reducible refine' Mine.gAt 62 ?_); refine' Mine.isTerminal_spec ?_ ?_ ?_ ?_ ?_ ?_ ?_ ?_ ?_ ?_ ?_ ?_; k_extra "mc"; intro _ _ _ _; k_extra "me"))
  (k_with "k_enter" => ((with_reducible refine' Mine.gAt 69 ?_); refine' Mine.isMiddle_spec ?_ ?_ ?_ ?_ ?_ ?_ ?_ ?_ ?_ ?_ ?_ ?_ ?_ ?_ ?_ ?_ ?_; k_extra "mc"; intro _ _ _ _; k_extra "me"))
  (k_with "k_enter" => ((with_reducible refine' Mine.gAt 76 ?_); refine' Mine.number_spec ?_ ?_ ?_ ?_ ?_ ?_ ?_ ?_ ?_ ?_ ?_ ?_ ?_ ?_ ?_ ?_; k_extra "mc"; intro _ _ _ _ _ _ _; k_extra "me"))
  (k_with "k_enter" => ((with_reducible refine' Mine.gAt 83 ?_); refine' Mine.rulesOf_spec ?_ ?_ ?_ ?_ ?_ ?_ ?_ ?_ ?_ ?_ ?_ ?_ ?_ ?_ ?_ ?_ ?_ ?_ ?_; k_extra "mc"; intro _ _ _ _ _ _ lz9; (try k_lt lz9); k_extra "me"))
  (k_with "k_enter" => ((with_reducible refine' Mine.gAt 90 ?_); refine' Mine.item_spec ?_ ?_ ?_ ?_ ?_ ?_ ?_ ?_ ?_ ?_ ?_ ?_ ?_ ?_ ?_ ?_; k_extra "mc"; intro _ _ _ _ _; k_extra "me"))
  (k_with "k_enter" => ((with_reducible refine' Mine.gAt 97 ?_); refine' Mine.ruleOf_spec ?_ ?_ ?_ ?_ ?_ ?_ ?_ ?_ ?_ ?_ ?_ ?_ ?_ ?_ ?_ ?_; k_extra "mc"; intro _ _ _ _ _; k_extra "me"))
  (k_with "k_enter" => ((with_reducible refine' Mine.gAt 104 ?_); refine' Mine.dotOf_spec ?_ ?_ ?_ ?_ ?_ ?_ ?_ ?_ ?_ ?_ ?_ ?_ ?_ ?_ ?_ ?_ ?_ ?_ ?_ ?_; k_extra "mc"; intro _ _ _ _ _; k_extra "me"))
  (k_with "k_enter" => ((with_reducible refine' Mine.gAt 111 ?_); refine' Mine.after_spec ?_ ?_ ?_ ?_ ?_ ?_ ?_ ?_ ?_ ?_ ?_ ?_ ?_ ?_ ?_ ?_ ?_ ?_ ?_ ?_ ?_ ?_ ?_ ?_ ?_ ?_ ?_ ?_ ?_; k_extra "mc"; intro _ _ _ _ _ _ _; k_extra "me"))
  (k_with "k_enter" => ((with_reducible refine' Mine.gAt 143 ?_); refine' Mine.lawShown_spec ?_ ?_ ?_ ?_ ?_ ?_ ?_ ?_ ?_ ?_ ?_ ?_ ?_ ?_ ?_ ?_ ?_ ?_ ?_; k_extra "mc"; intro _ _ _ _ _; k_extra "me"))
  (k_with "k_enter" => ((with_reducible refine' Mine.g3 ?_); refine' Mine.showRule_spec ?_ ?_ ?_ ?_ ?_ ?_ ?_ ?_ ?_ ?_ ?_ ?_ ?_ ?_ ?_ ?_ ?_ ?_ ?_ ?_ ?_ ?_ ?_ ?_ ?_ ?_ ?_ ?_; k_extra "mc"; intro _ _ _ _ _; k_extra "me"))
  (k_with "k_enter" => ((with_reducible refine' Mine.g2 ?_); refine' Mine.showRule0_spec ?_ ?_ ?_ ?_ ?_ ?_ ?_ ?_ ?_ ?_ ?_ ?_ ?_ ?_ ?_ ?_ ?_ ?_ ?_ ?_ ?_ ?_ ?_ ?_ ?_ ?_ ?_; k_extra "mc"; intro _ _ _ _ _; k_extra "me"))
  (k_with "k_enter" => ((with_reducible refine' Mine.gAt 131 ?_); refine' Mine.showItem_spec ?_ ?_ ?_ ?_ ?_ ?_ ?_ ?_ ?_ ?_ ?_ ?_ ?_ ?_ ?_ ?_ ?_ ?_ ?_ ?_ ?_ ?_ ?_ ?_ ?_ ?_ ?_ ?_ ?_ ?_ ?_ ?_ ?_ ?_ ?_; k_extra "mc"; intro _ _ _ _ _; k_extra "me"))
  (k_with "exec For Name Attribute cons nil" => (k_here; (with_unfolding_all refine Mine.for_mine (by k_asm) (by exact rfl) (by exact rfl) ?_; k_whole)))
  (k_with "exec For Name Call cons nil" => (k_here; (with_unfolding_all refine Mine.for_mine (by k_asm) (by exact rfl) (by exact rfl) ?_; k_whole)))
  (k_with "call type:range" => (k_here; (with_reducible show wpAny _ _ (call _ [Value.int _ _]) _ _ _); k_dflt (refine range1_rows (by k_asm) (by k_asm) ?_); intro _ _ _ _ _ _ _ _ _; (try k_sweep)))
  (k_with "call builtin:list.append" => (k_here; (with_reducible show wpAny _ _ (call (Value.builtin _) [Value.ref _, _]) _ _ _); k_dflt (refine Mine.append_led (by k_asm) (by k_asm) (by k_upd) (by omega) ?_); intro _ _ _; (try k_sweep)))
  (k_with "call builtin:list.extend" => (k_here; (with_reducible show wpAny _ _ (call (Value.builtin _) [Value.ref _, Value.ref _]) _ _ _); k_dflt (refine Mine.extend_led (by k_asm) (by k_asm) (by k_mem) (by ((try simp only [List.length_replicate]); omega)) (by k_upd) (by omega) (by ((try simp only [List.length_replicate]); omega)) ?_); intro _ _ _; (try k_sweep)))
  (k_with "binaryOp Mult ref int" => (k_here; k_dflt (refine Mine.mul_one_led (by k_asm) (by k_asm) (by k_mem) (by omega) (by omega) ?_); intro _ _ _ _ lz9; (try k_lt lz9); (try k_sweep)))
  (k_with "call type:tuple" => (k_here; (with_reducible show wpAny _ _ (call (Value.type _) [Value.ref _]) _ _ _); k_dflt (refine kde_tupleOf (by k_asm) (by k_asm) (by exact News.isList (by k_asm) (by k_mem)) (by ((try simp only [List.size_toArray]); omega)) (by rfl) ?_; k_whole); intro _ _ _ _ lz9; (try k_lt lz9); (try k_sweep)))
  (k_with "subscriptTail Name Slice ref ref" => (k_here; (with_reducible show wpAny _ _ (subscriptTail _ (PySem.Expr.Slice _ _ none _) (Value.ref _) (Value.ref _)) _ _ _); k_dflt (refine' kmk_slice_lit (by k_asm) (by k_asm) (by exact News.isList (by k_asm) (by k_mem)) (by kmk_part) (by kmk_part) (by rfl) ?_ (by with_unfolding_all rfl) (by kmk_pure) (by exact Nat.le_of_ble_eq_true rfl)); intro _ _ _ _ lz9; (try k_lt lz9); (try k_sweep)))
  trivial
namespace Mine
section
variable {w : World} {d u : Nat} {outer : List Env} {gs : Option (List Code)} {L a : Addr} {cd : Value} {h₀ base : Heap} {m : Str → Option Value}
    {mg mb : Str → Option Value} {mean : ExcName → Option Value} {A₀ : Around} {s : Shared} {Q : Flow → Shared → Prop}

theorem law3_end {ao bo an p : Addr} {x1 x2 x3 x4 : Addr × Obj} {av bv nv vs : List Value} {ea eb en n : Nat} {ns : List Int} {na nb : Nat} {c1 c2 c3 c4 c5 : Obj} (B : Below A₀ base outer h₀) (F : Fr h₀ L s.heap m) (X₀ : (Mine.hd.heap_39 w.params).In h₀)
    (T : Top Mine.hd.view_39 (looseW Mine.hd.view_39 [Str.ofString "show_rule"]) mean mg mb h₀) (hd : d < 500) (hu : u < 4000)
    (N : News h₀ L s.heap [(an, listOf nv.toArray en), x1, x2, x3, x4, (bo, listOf bv.toArray eb), (ao, listOf av.toArray ea), (p, listOf vs.toArray n), (L + 1 + 1 + 1 + 1 + 1, c5), (L + 1 + 1 + 1 + 1, c4), (L + 1 + 1 + 1, c3), (L + 1 + 1, c2), (L + 1, c1)])
    (q1 : L + 1 + 1 + 1 + 1 + 1 < an) (q2 : L + 1 + 1 + 1 + 1 + 1 < bo) (q3 : L + 1 + 1 + 1 + 1 + 1 < ao) (q4 : (@Ne Nat (L + 1 + 1 + 1 + 1 + 1) p) ∧ (@Ne Nat (L + 1 + 1 + 1 + 1) p) ∧ (@Ne Nat (L + 1 + 1 + 1) p) ∧ (@Ne Nat (L + 1 + 1) p) ∧ (@Ne Nat (L + 1) p)) (ne1 : an ≠ p) (ne2 : bo ≠ p)
    (d1 : c1.data = .cell (some (.ref p))) (d2 : c2.data = .cell (some (.ref an))) (d3 : c3.data = .cell none) (d4 : c4.data = .cell none) (d5 : c5.data = .cell none)
    (hm1 : m (Str.ofString "own") = some (.ref ao)) (hm2 : m (Str.ofString "others") = some (.ref bo))
    (hi : IntsAre vs ns) (hok : PoolOk ns) (hna : 1 ≤ na ∧ na ≤ 3) (hnb : 1 ≤ nb ∧ nb ≤ 3) (hav : av.length = na) (hbv : bv.length = nb) (hnv : StrsAre nv (namesOf na nb))
    (hQ : ∀ h' tk' m', Fr h₀ L h' m' → Q (.ret (.bool true)) { s with heap := h', toks := tk' }) :
    RestAt PySem.Challenge.rw_on0156_01.row.prog w ⟨none, d, some (envOfC (Str.ofString "law") (lawS w.params) L a cd :: outer), gs, u⟩ (lawB w.params 4) (envOfC (Str.ofString "law") (lawS w.params) L a cd) Q s := by
  refine law4 (ea := ea) (eb := eb) (en := en) (n := n) B F X₀ T hd hu (news_sub N fun q hq => ?_) q1 q2 q3 q4 ne1 ne2 d1 d2 d3 d4 d5 hm1 hm2 hi hok hna hnb hav hbv hnv hQ
  simp only [List.mem_cons] at hq
  rcases hq with rfl | rfl | rfl | rfl | rfl | rfl | rfl | rfl | rfl | h
  all_goals first | k_mem | (cases h)
theorem law3 {ao bo p : Addr} {av bv vs : List Value} {ea eb n : Nat} {ns : List Int} {na nb : Nat} {c1 c2 c3 c4 c5 : Obj} (B : Below A₀ base outer h₀) (F : Fr h₀ L s.heap m) (X₀ : (Mine.hd.heap_39 w.params).In h₀)
    (T : Top Mine.hd.view_39 (looseW Mine.hd.view_39 [Str.ofString "show_rule"]) mean mg mb h₀) (hd : d < 500) (hu : u < 4000)
    (N : News h₀ L s.heap [(bo, listOf bv.toArray eb), (ao, listOf av.toArray ea), (p, listOf vs.toArray n), (L + 1 + 1 + 1 + 1 + 1, c5), (L + 1 + 1 + 1 + 1, c4), (L + 1 + 1 + 1, c3), (L + 1 + 1, c2), (L + 1, c1)])
    (q2 : L + 1 + 1 + 1 + 1 + 1 < bo) (q3 : L + 1 + 1 + 1 + 1 + 1 < ao) (q4 : (@Ne Nat (L + 1 + 1 + 1 + 1 + 1) p) ∧ (@Ne Nat (L + 1 + 1 + 1 + 1) p) ∧ (@Ne Nat (L + 1 + 1 + 1) p) ∧ (@Ne Nat (L + 1 + 1) p) ∧ (@Ne Nat (L + 1) p)) (ne2 : bo ≠ p)
    (d1 : c1.data = .cell (some (.ref p))) (d2 : c2.data = .cell none) (d3 : c3.data = .cell none) (d4 : c4.data = .cell none) (d5 : c5.data = .cell none)
    (hm1 : m (Str.ofString "own") = some (.ref ao)) (hm2 : m (Str.ofString "others") = some (.ref bo))
    (hi : IntsAre vs ns) (hok : PoolOk ns) (hna : 1 ≤ na ∧ na ≤ 3) (hnb : 1 ≤ nb ∧ nb ≤ 3) (hav : StrsAre av ([Str.ofString "A", Str.ofString "'+'", Str.ofString "B"].take na)) (hbv : StrsAre bv ([Str.ofString "s", Str.ofString "t", Str.ofString "$@1"].take nb))
    (hQ : ∀ h' tk' m', Fr h₀ L h' m' → Q (.ret (.bool true)) { s with heap := h', toks := tk' }) :
    RestAt PySem.Challenge.rw_on0156_01.row.prog w ⟨none, d, some (envOfC (Str.ofString "law") (lawS w.params) L a cd :: outer), gs, u⟩ (lawB w.params 3) (envOfC (Str.ofString "law") (lawS w.params) L a cd) Q s := by
  replace q2 := ltN q2
  replace q3 := ltN q3
  have hal : av.length = na := by
    rw [strs_len hav, List.length_take]; simp only [List.length_cons, List.length_nil]; omega
  have hbl : bv.length = nb := by
    rw [strs_len hbv, List.length_take]; simp only [List.length_cons, List.length_nil]; omega
  rw [map_known hm1, map_known hm2] at F
  obtain ⟨S0, hS⟩ : ∃ S, S = lawS w.params := ⟨_, rfl⟩
  obtain ⟨B0, hB⟩ : ∃ S, S = lawB w.params 3 := ⟨_, rfl⟩
  rw [← hS, ← hB]
  revert B F X₀ T
  w_top off
  k_fill
  intro B F X₀ T
  conv at hS => rhs; whnf
  conv at hB => rhs; whnf
  subst hS
  subst hB
  refine execs_one ?_
  k_fold
  k_steps
  rename Fr _ _ _ _ => F9
  rename News _ _ _ _ => N9
  rename (_ ∧ _ ∧ _ ∧ _ ∧ bo < _ ∧ _) => l9
  refine law3_end B F9 X₀ T hd hu N9 l9.2.2.2.2.2.2.2.1 q2 q3 q4 (Nat.ne_of_gt l9.2.2.2.2.2.2.1) ne2 d1 (by assumption) d3 d4 d5 rfl rfl hi hok hna hnb hal hbl ?_ hQ
  exact strs_append (strs_append (strs_append (.cons _ _ (.cons _ _ (.cons _ _ .nil))) hav) (.cons _ _ .nil)) hbv
theorem law2_end {ao bo p : Addr} {x1 : Addr × Obj} {av bv vs : List Value} {ea eb n : Nat} {ns : List Int} {na nb : Nat} {c1 c2 c3 c4 c5 : Obj} (B : Below A₀ base outer h₀) (F : Fr h₀ L s.heap m) (X₀ : (Mine.hd.heap_39 w.params).In h₀)
    (T : Top Mine.hd.view_39 (looseW Mine.hd.view_39 [Str.ofString "show_rule"]) mean mg mb h₀) (hd : d < 500) (hu : u < 4000)
    (N : News h₀ L s.heap [(bo, listOf bv.toArray eb), x1, (ao, listOf av.toArray ea), (p, listOf vs.toArray n), (L + 1 + 1 + 1 + 1 + 1, c5), (L + 1 + 1 + 1 + 1, c4), (L + 1 + 1 + 1, c3), (L + 1 + 1, c2), (L + 1, c1)])
    (q2 : L + 1 + 1 + 1 + 1 + 1 < bo) (q3 : L + 1 + 1 + 1 + 1 + 1 < ao) (q4 : (@Ne Nat (L + 1 + 1 + 1 + 1 + 1) p) ∧ (@Ne Nat (L + 1 + 1 + 1 + 1) p) ∧ (@Ne Nat (L + 1 + 1 + 1) p) ∧ (@Ne Nat (L + 1 + 1) p) ∧ (@Ne Nat (L + 1) p)) (ne2 : bo ≠ p)
    (d1 : c1.data = .cell (some (.ref p))) (d2 : c2.data = .cell none) (d3 : c3.data = .cell none) (d4 : c4.data = .cell none) (d5 : c5.data = .cell none)
    (hm1 : m (Str.ofString "own") = some (.ref ao)) (hm2 : m (Str.ofString "others") = some (.ref bo))
    (hi : IntsAre vs ns) (hok : PoolOk ns) (hna : 1 ≤ na ∧ na ≤ 3) (hnb : 1 ≤ nb ∧ nb ≤ 3) (hav : StrsAre av ([Str.ofString "A", Str.ofString "'+'", Str.ofString "B"].take na)) (hbv : StrsAre bv ([Str.ofString "s", Str.ofString "t", Str.ofString "$@1"].take nb))
    (hQ : ∀ h' tk' m', Fr h₀ L h' m' → Q (.ret (.bool true)) { s with heap := h', toks := tk' }) :
    RestAt PySem.Challenge.rw_on0156_01.row.prog w ⟨none, d, some (envOfC (Str.ofString "law") (lawS w.params) L a cd :: outer), gs, u⟩ (lawB w.params 3) (envOfC (Str.ofString "law") (lawS w.params) L a cd) Q s := by
  refine law3 (ea := ea) (eb := eb) (n := n) B F X₀ T hd hu (news_sub N fun q hq => ?_) q2 q3 q4 ne2 d1 d2 d3 d4 d5 hm1 hm2 hi hok hna hnb hav hbv hQ
  simp only [List.mem_cons] at hq
  rcases hq with rfl | rfl | rfl | rfl | rfl | rfl | rfl | rfl | h
  all_goals first | k_mem | (cases h)
theorem law2 {ao p : Addr} {av vs : List Value} {ea n : Nat} {ns : List Int} {na : Nat} {c1 c2 c3 c4 c5 : Obj} (B : Below A₀ base outer h₀) (F : Fr h₀ L s.heap m) (X₀ : (Mine.hd.heap_39 w.params).In h₀)
    (T : Top Mine.hd.view_39 (looseW Mine.hd.view_39 [Str.ofString "show_rule"]) mean mg mb h₀) (hd : d < 500) (hu : u < 4000)
    (N : News h₀ L s.heap [(ao, listOf av.toArray ea), (p, listOf vs.toArray n), (L + 1 + 1 + 1 + 1 + 1, c5), (L + 1 + 1 + 1 + 1, c4), (L + 1 + 1 + 1, c3), (L + 1 + 1, c2), (L + 1, c1)])
    (q3 : L + 1 + 1 + 1 + 1 + 1 < ao) (q4 : (@Ne Nat (L + 1 + 1 + 1 + 1 + 1) p) ∧ (@Ne Nat (L + 1 + 1 + 1 + 1) p) ∧ (@Ne Nat (L + 1 + 1 + 1) p) ∧ (@Ne Nat (L + 1 + 1) p) ∧ (@Ne Nat (L + 1) p)) (ne1 : ao ≠ p)
    (d1 : c1.data = .cell (some (.ref p))) (d2 : c2.data = .cell none) (d3 : c3.data = .cell none) (d4 : c4.data = .cell none) (d5 : c5.data = .cell none)
    (hm1 : m (Str.ofString "own") = some (.ref ao))
    (hi : IntsAre vs ns) (hok : PoolOk ns) (hna : 1 ≤ na ∧ na ≤ 3) (hav : StrsAre av ([Str.ofString "A", Str.ofString "'+'", Str.ofString "B"].take na))
    (hQ : ∀ h' tk' m', Fr h₀ L h' m' → Q (.ret (.bool true)) { s with heap := h', toks := tk' }) :
    RestAt PySem.Challenge.rw_on0156_01.row.prog w ⟨none, d, some (envOfC (Str.ofString "law") (lawS w.params) L a cd :: outer), gs, u⟩ (lawB w.params 2) (envOfC (Str.ofString "law") (lawS w.params) L a cd) Q s := by
  replace q3 := ltN q3
  replace ne1 := neN ne1
  rw [map_known hm1] at F
  obtain ⟨S0, hS⟩ : ∃ S, S = lawS w.params := ⟨_, rfl⟩
  obtain ⟨B0, hB⟩ : ∃ S, S = lawB w.params 2 := ⟨_, rfl⟩
  rw [← hS, ← hB]
  revert B F X₀ T
  w_top off
  k_fill
  intro B F X₀ T
  conv at hS => rhs; whnf
  conv at hB => rhs; whnf
  subst hS
  subst hB
  refine execs_one ?_
  k_fold
  k_steps
  rename Fr _ _ _ _ => F9
  rename News _ _ _ _ => N9
  rename IntsAre _ _ => gi
  rename PoolOk _ => gk
  rename (0 ≤ (_ : Int)) => g0
  rename ((_ : Int) < 3) => g1
  rename (_ ∧ ao < _ ∧ p < _ ∧ _) => l9
  obtain ⟨k9, hk9⟩ := Int.eq_ofNat_of_zero_le g0
  subst hk9
  refine law2_end (nb := (1 + (k9 : Int)).toNat) B F9 X₀ T hd hu N9 l9.2.2.2.1 q3 q4 (Nat.ne_of_gt l9.2.2.1) d1 d2 d3 d4 d5 rfl rfl gi gk hna (by omega) hav (strs_upto (.cons _ _ (.cons _ _ (.cons _ _ .nil))) (by omega)) hQ
theorem law1_end {ao p : Addr} {x1 : Addr × Obj} {av vs : List Value} {ea n : Nat} {ns : List Int} {na : Nat} {c1 c2 c3 c4 c5 : Obj} (B : Below A₀ base outer h₀) (F : Fr h₀ L s.heap m) (X₀ : (Mine.hd.heap_39 w.params).In h₀)
    (T : Top Mine.hd.view_39 (looseW Mine.hd.view_39 [Str.ofString "show_rule"]) mean mg mb h₀) (hd : d < 500) (hu : u < 4000)
    (N : News h₀ L s.heap [(ao, listOf av.toArray ea), x1, (p, listOf vs.toArray n), (L + 1 + 1 + 1 + 1 + 1, c5), (L + 1 + 1 + 1 + 1, c4), (L + 1 + 1 + 1, c3), (L + 1 + 1, c2), (L + 1, c1)])
    (q3 : L + 1 + 1 + 1 + 1 + 1 < ao) (q4 : (@Ne Nat (L + 1 + 1 + 1 + 1 + 1) p) ∧ (@Ne Nat (L + 1 + 1 + 1 + 1) p) ∧ (@Ne Nat (L + 1 + 1 + 1) p) ∧ (@Ne Nat (L + 1 + 1) p) ∧ (@Ne Nat (L + 1) p)) (ne1 : ao ≠ p)
    (d1 : c1.data = .cell (some (.ref p))) (d2 : c2.data = .cell none) (d3 : c3.data = .cell none) (d4 : c4.data = .cell none) (d5 : c5.data = .cell none)
    (hm1 : m (Str.ofString "own") = some (.ref ao))
    (hi : IntsAre vs ns) (hok : PoolOk ns) (hna : 1 ≤ na ∧ na ≤ 3) (hav : StrsAre av ([Str.ofString "A", Str.ofString "'+'", Str.ofString "B"].take na))
    (hQ : ∀ h' tk' m', Fr h₀ L h' m' → Q (.ret (.bool true)) { s with heap := h', toks := tk' }) :
    RestAt PySem.Challenge.rw_on0156_01.row.prog w ⟨none, d, some (envOfC (Str.ofString "law") (lawS w.params) L a cd :: outer), gs, u⟩ (lawB w.params 2) (envOfC (Str.ofString "law") (lawS w.params) L a cd) Q s := by
  refine law2 (ea := ea) (n := n) B F X₀ T hd hu (news_sub N fun q hq => ?_) q3 q4 ne1 d1 d2 d3 d4 d5 hm1 hi hok hna hav hQ
  simp only [List.mem_cons] at hq
  rcases hq with rfl | rfl | rfl | rfl | rfl | rfl | rfl | h
  all_goals first | k_mem | (cases h)
theorem law1 {p : Addr} {vs : List Value} {n : Nat} {ns : List Int} {c1 c2 c3 c4 c5 : Obj} (B : Below A₀ base outer h₀) (F : Fr h₀ L s.heap m) (X₀ : (Mine.hd.heap_39 w.params).In h₀)
    (T : Top Mine.hd.view_39 (looseW Mine.hd.view_39 [Str.ofString "show_rule"]) mean mg mb h₀) (hd : d < 500) (hu : u < 4000)
    (N : News h₀ L s.heap [(p, listOf vs.toArray n), (L + 1 + 1 + 1 + 1 + 1, c5), (L + 1 + 1 + 1 + 1, c4), (L + 1 + 1 + 1, c3), (L + 1 + 1, c2), (L + 1, c1)])
    (q4 : (@Ne Nat (L + 1 + 1 + 1 + 1 + 1) p) ∧ (@Ne Nat (L + 1 + 1 + 1 + 1) p) ∧ (@Ne Nat (L + 1 + 1 + 1) p) ∧ (@Ne Nat (L + 1 + 1) p) ∧ (@Ne Nat (L + 1) p))
    (d1 : c1.data = .cell (some (.ref p))) (d2 : c2.data = .cell none) (d3 : c3.data = .cell none) (d4 : c4.data = .cell none) (d5 : c5.data = .cell none)
    (hi : IntsAre vs ns) (hok : PoolOk ns)
    (hQ : ∀ h' tk' m', Fr h₀ L h' m' → Q (.ret (.bool true)) { s with heap := h', toks := tk' }) :
    RestAt PySem.Challenge.rw_on0156_01.row.prog w ⟨none, d, some (envOfC (Str.ofString "law") (lawS w.params) L a cd :: outer), gs, u⟩ (lawB w.params 1) (envOfC (Str.ofString "law") (lawS w.params) L a cd) Q s := by
  obtain ⟨S0, hS⟩ : ∃ S, S = lawS w.params := ⟨_, rfl⟩
  obtain ⟨B0, hB⟩ : ∃ S, S = lawB w.params 1 := ⟨_, rfl⟩
  rw [← hS, ← hB]
  revert B F X₀ T
  w_top off
  k_fill
  intro B F X₀ T
  conv at hS => rhs; whnf
  conv at hB => rhs; whnf
  subst hS
  subst hB
  refine execs_one ?_
  k_fold
  k_steps
  rename Fr _ _ _ _ => F9
  rename News _ _ _ _ => N9
  rename IntsAre _ _ => gi
  rename PoolOk _ => gk
  rename (0 ≤ (_ : Int)) => g0
  rename ((_ : Int) < 3) => g1
  rename (_ ∧ p < _ ∧ _) => l9
  obtain ⟨k9, hk9⟩ := Int.eq_ofNat_of_zero_le g0
  subst hk9
  refine law1_end (na := (1 + (k9 : Int)).toNat) B F9 X₀ T hd hu N9 l9.2.2.1 q4 (Nat.ne_of_gt l9.2.1) d1 d2 d3 d4 d5 rfl gi gk (by omega) (strs_upto (.cons _ _ (.cons _ _ (.cons _ _ .nil))) (by omega)) hQ
end

end Mine
theorem Mine.rows_16 : True := by
  k_with_none
  (k_with "k_mem" => first | with_reducible assumption | exact List.mem_cons_self | (refine' List.mem_cons_of_mem _ ?_; k_mem))
  (k_with "k_all" => first | with_reducible assumption | exact Mine.offL_ne _ _ | exact Mine.allLt_ne (by assumption) | exact Mine.ltAll_ne (by assumption))
  (k_with "k_ne" => (refine neN ?_; (try dsimp only); first | assumption | exact Ne.symm (by assumption) | exact Nat.ne_of_lt (by assumption) | exact Nat.ne_of_gt (by assumption)))
  (k_with "k_room" => ((try simp only [depth_under_make, depth_under_kw, depth_in1, depth_deeper, depth_caller]); (have hrl9 : recursionLimit = 1000 := by rfl); (try dsimp only); omega))
  (k_with "k_units" => ((have hcL9 := cLine_is); (try simp only [units_in1, units_deeper, Around.mark_units, units_caller]); (try dsimp only); omega))
  (k_with "mok" => (all_goals first | (fail_if_success (with_reducible show (_ : Prop))) | (with_reducible show wpAny _ _ _ _ _ _) | (fail_if_success (fail_if_success intro _))))
  (k_with "mc" => (try any_goals ((with_reducible show Fr _ _ _ _); k_asm)); (try any_goals ((with_reducible show (_ : Prop)); (fail_if_success (with_reducible show wpAny _ _ _ _ _ _)); first | k_mem | k_asm | (intro vz8 nz8; k_upd) | ((fail_if_success intro _); first | exact rfl | ((with_reducible show (_ : Nat) < _); first | k_room | k_units) | ((try rw [sizeLine_eq]); (try simp only [List.size_toArray, List.length_append, List.length_cons, List.length_nil, Array.length_toList, List.length_replicate]); omega) | exact News.isList (by k_asm) (by k_mem) | exact News.isTup (by k_asm) (by k_mem) | k_upd))); k_extra "mok")
  (k_with "me" => ((try dsimp only); (try k_sweep)))
  (k_with "ment" => (try any_goals ((with_reducible show Below _ _ _ _); k_asm)); (try any_goals ((with_reducible show Fr _ _ _ _); k_asm)); (try any_goals ((with_reducible show Frag.In _ _); k_asm)); (try any_goals ((with_reducible show News _ _ _ _); k_asm)); (try any_goals ((with_reducible show Top _ _ _ _ _ _); k_asm)); (try any_goals ((with_reducible show (_ : Option _) = _); k_is)); (try any_goals ((with_reducible show codeIn _ _ _ = _); k_is)); (try any_goals ((with_reducible show (_ : Nat) < _); k_room)); (try any_goals ((with_reducible show BindsTo _ _ _ _); first | exact BindsTo.of_eq rfl | exact binds_K (by k_in) rfl (by k_is) rfl rfl rfl | fail "k_enter: no rule for these arguments")))
  (k_with "k_enter" => (refine' code_def ?_ ?_ ?_ ?_ ?_ (by exact rfl) (by first | exact rfl | assumption) (by first | exact rfl | assumption) ?_ ?_ ?_ ?_ ?_ ?_ ?_ ?_ ?_ ?_; k_extra "ment"; (try any_goals ((with_reducible show (_ : Bool) = _); exact rfl)); (try any_goals ((with_reducible show (_ : ScopeKind) = _); exact rfl)); (any_goals exact locs rfl); (any_goals ((with_reducible show ∀ x ∈ Scope.names _, _); decide)); k_extra "mok"; k_whole; intro _ _ _ _ _ _ Bz9 _ _; (try dsimp only); (try k_lift Bz9); (try k_fold)))
  (k_with "k_enter" => (refine' code_defC ?_ ?_ ?_ ?_ ?_ (by exact rfl) (by first | exact rfl | assumption) (by first | exact rfl | assumption) ?_ ?_ ?_ ?_ ?_ ?_ ?_ ?_ ?_ ?_; k_extra "ment"; (try any_goals ((with_reducible show (_ : Bool) = _); exact rfl)); (try any_goals ((with_reducible show (_ : ScopeKind) = _); exact rfl)); (any_goals ((with_reducible show List.Nodup _); decide +kernel)); k_extra "mok"; k_whole; intro _ _ _ _ _ _ _ Nz9 Yz9 Bz9 _ _ lz9; (try k_lt lz9); k_cells Yz9; (try simp only [List.cons_append, List.nil_append] at Nz9); (try dsimp only); (try k_lift Bz9); (try k_fold)))
  (k_with "k_enter" => ((with_reducible refine' Mine.gAt 138 ?_); refine' Mine.take_specU ?_ ?_ ?_ ?_ ?_ ?_ ?_ ?_ ?_ ?_ ?_ ?_ ?_ ?_; k_extra "mc"; intro _ _ _ _ _ _ _ _ _ _ _ _; k_extra "me"))
  (k_with "call builtin:len" => (k_here; (with_reducible show wpAny _ _ (call (Value.builtin "len") [Value.ref _]) _ _ _); k_dflt (first | (refine Mine.len_led (by k_asm) (by k_mem) (by (simp only [List.size_toArray]; omega)) ?_; k_whole; (try simp only [List.size_toArray])) | (refine Mine.lent_led (by k_asm) (by k_mem) (by (simp only [List.size_toArray]; omega)) ?_; k_whole; (try simp only [List.size_toArray])))))
  (k_with "subscriptTail" => (k_here; (with_reducible show wpAny _ _ (subscriptTail _ _ (Value.ref _) (Value.int _ _)) _ _ _); k_dflt (first | (refine Mine.item_led (by k_asm) (by k_mem) (by omega) (by with_reducible assumption) (by omega) ?_; k_whole) | (refine Mine.itemt_led (by k_asm) (by k_mem) (by omega) (by with_reducible assumption) (by omega) ?_; k_whole))))
  (k_with "compareOp In" => (k_here; (with_reducible show wpAny _ _ (compareOp CmpOp.In (Value.str _ _) (Value.ref _)) _ _ _); k_dflt (refine Mine.in_strs (by k_asm) (by k_mem) (by with_reducible assumption) ?_; k_whole)))
  (k_with "call builtin:list.index" => (k_here; (with_reducible show wpAny _ _ (call (Value.builtin _) [Value.ref _, Value.str _ _]) _ _ _); k_dflt (refine Mine.index_strs (by k_asm) (by k_mem) (by with_reducible assumption) (by omega) (by first | assumption | (simp_all; done)) ?_; k_whole)))
  (k_with "call type:list" => (k_here; (with_reducible show wpAny _ _ (call (Value.type _) [Value.ref _]) _ _ _); (with_unfolding_all first | (refine list_copyK (by k_asm) (by k_asm) (by exact News.isList (by k_asm) (by k_mem)) ?_ (by (rw [sizeLine_eq]; simp only [List.size_toArray]; omega)); k_whole) | (refine list_copyKT (by k_asm) (by k_asm) (by exact News.isTup (by k_asm) (by k_mem)) ?_ (by (rw [sizeLine_eq]; simp only [List.size_toArray]; omega)); k_whole)); intro _ _ _ _ _ lz9; (try k_lt lz9); (try k_sweep)))
  (k_with "binaryOp Add ref ref" => (k_here; (with_reducible show wpAny _ _ (binaryOp _ (Value.ref _) (Value.ref _)) _ _ _); k_dflt (refine' Mine.add_led ?_ ?_ ?_ ?_ ?_ ?_; k_extra "mc"); intro _ _ _ _ lz9; (try k_lt lz9); (try k_sweep)))
  (k_with "binaryOp Add str str" => (k_here; (with_reducible show wpAny _ _ (binaryOp _ (Value.str _ _) (Value.str _ _)) _ _ _); k_dflt (refine PyProof.Rows.add_str ?_ (by with_reducible assumption)); intro _ _))
  (k_with "k_enter" => ((with_reducible refine' Mine.gAt 55 ?_); refine' Mine.symbolCount_spec ?_ ?_ ?_ ?_ ?_ ?_ ?_ ?_ ?_ ?_ ?_ ?_ ?_ ?_; k_extra "mc"; intro _ _ _ _ _; k_extra "me"))
  (k_with "k_enter" => ((with_reducible refine' Mine.gAt 62 ?_); refine' Mine.isTerminal_spec ?_ ?_ ?_ ?_ ?_ ?_ ?_ ?_ ?_ ?_ ?_ ?_; k_extra "mc"; intro _ _ _ _; k_extra "me"))
  (k_with "k_enter" => ((with_reducible refine' Mine.gAt 69 ?_); refine' Mine.isMiddle_spec ?_ ?_ ?_ ?_ ?_ ?_ ?_ ?_ ?_ ?_ ?_ ?_ ?_ ?_ ?_ ?_ ?_; k_extra "mc"; intro _ _ _ _; k_extra "me"))
  (k_with "k_enter" => ((with_reducible refine' Mine.gAt 76 ?_); refine' Mine.number_spec ?_ ?_ ?_ ?_ ?_ ?_ ?_ ?_ ?_ ?_ ?_ ?_ ?_ ?_ ?_ ?_; k_extra "mc"; intro _ _ _ _ _ _ _; k_extra "me"))
  (k_with "k_enter" => ((with_reducible refine' Mine.gAt 83 ?_); refine' Mine.rulesOf_spec ?_ ?_ ?_ ?_ ?_ ?_ ?_ ?_ ?_ ?_ ?_ ?_ ?_ ?_ ?_ ?_ ?_ ?_ ?_; k_extra "mc"; intro _ _ _ _ _ _ lz9; (try k_lt lz9); k_extra "me"))
  (k_with "k_enter" => ((with_reducible refine' Mine.gAt 90 ?_); refine' Mine.item_spec ?_ ?_ ?_ ?_ ?_ ?_ ?_ ?_ ?_ ?_ ?_ ?_ ?_ ?_ ?_ ?_; k_extra "mc"; intro _ _ _ _ _; k_extra "me"))
  (k_with "k_enter" => ((with_reducible refine' Mine.gAt 97 ?_); refine' Mine.ruleOf_spec ?_ ?_ ?_ ?_ ?_ ?_ ?_ ?_ ?_ ?_ ?_ ?_ ?_ ?_ ?_ ?_; k_extra "mc"; intro _ _ _ _ _; k_extra "me"))
  (k_with "k_enter" => ((with_reducible refine' Mine.gAt 104 ?_); refine' Mine.dotOf_spec ?_ ?_ ?_ ?_ ?_ ?_ ?_ ?_ ?_ ?_ ?_ ?_ ?_ ?_ ?_ ?_ ?_ ?_ ?_ ?_; k_extra "mc"; intro _ _ _ _ _; k_extra "me"))
  (k_with "k_enter" => ((with_reducible refine' Mine.gAt 111 ?_); refine' Mine.after_spec ?_ ?_ ?_ ?_ ?_ ?_ ?_ ?_ ?_ ?_ ?_ ?_ ?_ ?_ ?_ ?_ ?_ ?_ ?_ ?_ ?_ ?_ ?_ ?_ ?_ ?_ ?_ ?_ ?_; k_extra "mc"; intro _ _ _ _ _ _ _; k_extra "me"))
  (k_with "k_enter" => ((with_reducible refine' Mine.gAt 143 ?_); refine' Mine.lawShown_spec ?_ ?_ ?_ ?_ ?_ ?_ ?_ ?_ ?_ ?_ ?_ ?_ ?_ ?_ ?_ ?_ ?_ ?_ ?_; k_extra "mc"; intro _ _ _ _ _; k_extra "me"))
  (k_with "k_enter" => ((with_reducible refine' Mine.g3 ?_); refine' Mine.showRule_spec ?_ ?_ ?_ ?_ ?_ ?_ ?_ ?_ ?_ ?_ ?_ ?_ ?_ ?_ ?_ ?_ ?_ ?_ ?_ ?_ ?_ ?_ ?_ ?_ ?_ ?_ ?_ ?_; k_extra "mc"; intro _ _ _ _ _; k_extra "me"))
  (k_with "k_enter" => ((with_reducible refine' Mine.g2 ?_); refine' Mine.showRule0_spec ?_ ?_ ?_ ?_ ?_ ?_ ?_ ?_ ?_ ?_ ?_ ?_ ?_ ?_ ?_ ?_ ?_ ?_ ?_ ?_ ?_ ?_ ?_ ?_ ?_ ?_ ?_; k_extra "mc"; intro _ _ _ _ _; k_extra "me"))
  (k_with "k_enter" => ((with_reducible refine' Mine.gAt 131 ?_); refine' Mine.showItem_spec ?_ ?_ ?_ ?_ ?_ ?_ ?_ ?_ ?_ ?_ ?_ ?_ ?_ ?_ ?_ ?_ ?_ ?_ ?_ ?_ ?_ ?_ ?_ ?_ ?_ ?_ ?_ ?_ ?_ ?_ ?_ ?_ ?_ ?_ ?_; k_extra "mc"; intro _ _ _ _ _; k_extra "me"))
  (k_with "exec For Name Attribute cons nil" => (k_here; (with_unfolding_all refine Mine.for_mine (by k_asm) (by exact rfl) (by exact rfl) ?_; k_whole)))
  (k_with "exec For Name Call cons nil" => (k_here; (with_unfolding_all refine Mine.for_mine (by k_asm) (by exact rfl) (by exact rfl) ?_; k_whole)))
  (k_with "call type:range" => (k_here; (with_reducible show wpAny _ _ (call _ [Value.int _ _]) _ _ _); k_dflt (refine range1_rows (by k_asm) (by k_asm) ?_); intro _ _ _ _ _ _ _ _ _; (try k_sweep)))
  (k_with "call builtin:list.append" => (k_here; (with_reducible show wpAny _ _ (call (Value.builtin _) [Value.ref _, _]) _ _ _); k_dflt (refine Mine.append_led (by k_asm) (by k_asm) (by k_upd) (by omega) ?_); intro _ _ _; (try k_sweep)))
  (k_with "call builtin:list.extend" => (k_here; (with_reducible show wpAny _ _ (call (Value.builtin _) [Value.ref _, Value.ref _]) _ _ _); k_dflt (refine Mine.extend_led (by k_asm) (by k_asm) (by k_mem) (by ((try simp only [List.length_replicate]); omega)) (by k_upd) (by omega) (by ((try simp only [List.length_replicate]); omega)) ?_); intro _ _ _; (try k_sweep)))
  (k_with "binaryOp Mult ref int" => (k_here; k_dflt (refine Mine.mul_one_led (by k_asm) (by k_asm) (by k_mem) (by omega) (by omega) ?_); intro _ _ _ _ lz9; (try k_lt lz9); (try k_sweep)))
  (k_with "call type:tuple" => (k_here; (with_reducible show wpAny _ _ (call (Value.type _) [Value.ref _]) _ _ _); k_dflt (refine kde_tupleOf (by k_asm) (by k_asm) (by exact News.isList (by k_asm) (by k_mem)) (by ((try simp only [List.size_toArray]); omega)) (by rfl) ?_; k_whole); intro _ _ _ _ lz9; (try k_lt lz9); (try k_sweep)))
  trivial
namespace Mine
theorem pool_start (ns : List Int) : PoolOk (List.map (fun k' : Int => (if k' < 0 then -k' else k').fmod (10 ^ Int.toNat 80)) (List.take 24 ns)) := by
  refine ⟨fun x hx => ?_, ?_⟩
  · obtain ⟨k, _, rfl⟩ := List.mem_map.mp hx
    have hp : (0 : Int) < 10 ^ Int.toNat 80 := by decide
    rw [Int.fmod_eq_emod_of_nonneg _ (Int.le_of_lt hp)]
    exact ⟨Int.emod_nonneg _ (by decide), Int.emod_lt_of_pos _ hp⟩
  · rw [List.length_map, List.length_take]; omega
section
variable {w : World} {d u : Nat} {outer : List Env} {gs : Option (List Code)} {L a : Addr} {cd : Value} {h₀ base : Heap} {m : Str → Option Value}
    {mg mb : Str → Option Value} {mean : ExcName → Option Value} {A₀ : Around} {s : Shared} {Q : Flow → Shared → Prop}

theorem law0_end {p : Addr} {x1 : Addr × Obj} {vs : List Value} {n : Nat} {ns : List Int} {c1 c2 c3 c4 c5 : Obj} (B : Below A₀ base outer h₀) (F : Fr h₀ L s.heap m) (X₀ : (Mine.hd.heap_39 w.params).In h₀)
    (T : Top Mine.hd.view_39 (looseW Mine.hd.view_39 [Str.ofString "show_rule"]) mean mg mb h₀) (hd : d < 500) (hu : u < 4000)
    (N : News h₀ L s.heap [(p, listOf vs.toArray n), x1, (L + 1 + 1 + 1 + 1 + 1, c5), (L + 1 + 1 + 1 + 1, c4), (L + 1 + 1 + 1, c3), (L + 1 + 1, c2), (L + 1, c1)])
    (q4 : (@Ne Nat (L + 1 + 1 + 1 + 1 + 1) p) ∧ (@Ne Nat (L + 1 + 1 + 1 + 1) p) ∧ (@Ne Nat (L + 1 + 1 + 1) p) ∧ (@Ne Nat (L + 1 + 1) p) ∧ (@Ne Nat (L + 1) p))
    (d1 : c1.data = .cell (some (.ref p))) (d2 : c2.data = .cell none) (d3 : c3.data = .cell none) (d4 : c4.data = .cell none) (d5 : c5.data = .cell none)
    (hi : IntsAre vs ns) (hok : PoolOk ns)
    (hQ : ∀ h' tk' m', Fr h₀ L h' m' → Q (.ret (.bool true)) { s with heap := h', toks := tk' }) :
    RestAt PySem.Challenge.rw_on0156_01.row.prog w ⟨none, d, some (envOfC (Str.ofString "law") (lawS w.params) L a cd :: outer), gs, u⟩ (lawB w.params 1) (envOfC (Str.ofString "law") (lawS w.params) L a cd) Q s := by
  refine law1 (n := n) B F X₀ T hd hu (news_sub N fun q hq => ?_) q4 d1 d2 d3 d4 d5 hi hok hQ
  simp only [List.mem_cons] at hq
  rcases hq with rfl | rfl | rfl | rfl | rfl | rfl | h
  all_goals first | k_mem | (cases h)
theorem law_pre {ls : Addr} {vs : List Value} {ns : List Int} {c1 c2 c3 c4 c5 : Obj} (B : Below A₀ base outer h₀) (F : Fr h₀ L s.heap m) (X₀ : (Mine.hd.heap_39 w.params).In h₀)
    (T : Top Mine.hd.view_39 (looseW Mine.hd.view_39 [Str.ofString "show_rule"]) mean mg mb h₀) (hd : d < 500) (hu : u < 4000)
    (N : News h₀ L s.heap [(L + 1 + 1 + 1 + 1 + 1, c5), (L + 1 + 1 + 1 + 1, c4), (L + 1 + 1 + 1, c3), (L + 1 + 1, c2), (L + 1, c1)])
    (d1 : c1.data = .cell none) (d2 : c2.data = .cell none) (d3 : c3.data = .cell none) (d4 : c4.data = .cell none) (d5 : c5.data = .cell none)
    (hm : m (Str.ofString "script") = some (.ref ls)) (hl : h₀.IsList ls vs.toArray) (hi : IntsAre vs ns) (hlay : PyData.layable0 (.list (ns.map .int)) = true)
    (hQ : ∀ h' tk' m', Fr h₀ L h' m' → Q (.ret (.bool true)) { s with heap := h', toks := tk' }) :
    RestAt PySem.Challenge.rw_on0156_01.row.prog w ⟨none, d, some (envOfC (Str.ofString "law") (lawS w.params) L a cd :: outer), gs, u⟩ (lawB w.params 0) (envOfC (Str.ofString "law") (lawS w.params) L a cd) Q s := by
  rw [map_known hm] at F
  obtain ⟨S0, hS⟩ : ∃ S, S = lawS w.params := ⟨_, rfl⟩
  obtain ⟨B0, hB⟩ : ∃ S, S = lawB w.params 0 := ⟨_, rfl⟩
  rw [← hS, ← hB]
  revert B F X₀ T
  w_top off
  k_fill
  intro B F X₀ T
  conv at hS => rhs; whnf
  conv at hB => rhs; whnf
  subst hS
  subst hB
  refine execs_one ?_
  k_fold
  k_steps
  have hok := pool_start ns
  rename Fr _ _ _ _ => F9
  rename News _ _ _ _ => N9
  rename (_ ∧ _ ∧ _ ∧ _ ∧ _ ∧ _) => l9
  exact law0_end B F9 X₀ T hd hu N9 l9.2 (by assumption) d2 d3 d4 d5 (by assumption) hok hQ
end

end Mine
namespace Mine
variable {w : World} {d u : Nat} {outer : List Env} {gs : Option (List Code)} {L a : Addr} {cd : Value} {h₀ base : Heap} {m : Str → Option Value}
    {mg mb : Str → Option Value} {mean : ExcName → Option Value} {A₀ : Around} {s : Shared} {Q : Flow → Shared → Prop}

theorem law_top {A : Around} {env : Env} {body : List Stmt} {ls : Addr} {vs : List Value} {ns : List Int} {c1 c2 c3 c4 c5 : Obj} (B : Below A₀ base outer h₀) (F : Fr h₀ L s.heap m) (X₀ : (Mine.hd.heap_39 w.params).In h₀)
    (T : Top Mine.hd.view_39 (looseW Mine.hd.view_39 [Str.ofString "show_rule"]) mean mg mb h₀) (hd : d < 500) (hu : u < 4000)
    (N : News h₀ L s.heap [(L + 1 + 1 + 1 + 1 + 1, c5), (L + 1 + 1 + 1 + 1, c4), (L + 1 + 1 + 1, c3), (L + 1 + 1, c2), (L + 1, c1)])
    (d1 : c1.data = .cell none) (d2 : c2.data = .cell none) (d3 : c3.data = .cell none) (d4 : c4.data = .cell none) (d5 : c5.data = .cell none)
    (hm : m (Str.ofString "script") = some (.ref ls)) (hl : h₀.IsList ls vs.toArray) (hi : IntsAre vs ns) (hlay : PyData.layable0 (.list (ns.map .int)) = true)
    (hA : A = ⟨none, d, some (env :: outer), gs, u⟩) (he : env = envOfC (Str.ofString "law") (lawS w.params) L a cd) (hb : body = lawB w.params 0)
    (hQ : ∀ h' tk' m', Fr h₀ L h' m' → Q (.ret (.bool true)) { s with heap := h', toks := tk' }) :
    wpAny (model PySem.Challenge.rw_on0156_01.row.prog w) A (execs body env) Q (fun _ _ => False) s := by
  subst he hb hA
  exact law_pre B F X₀ T hd hu N d1 d2 d3 d4 d5 hm hl hi hlay hQ

end Mine
theorem PySem.Challenge.cw_on0156_01_holds : PySem.Challenge.rw_on0156_01.Holds :=
  Mine.hd (by
  w_top off
  k_go0
  refine wpAny_noRaise ?_
  refine' Mine.law_top ?kB ?kF ?kX ?kT ?kd ?ku ?kN ?d1 ?d2 ?d3 ?d4 ?d5 ?hm ?hl ?hi ?hlay ?hA ?he ?hb ?hQ
  case kB => assumption
  case kF => assumption
  case kX => assumption
  case kT => assumption
  case kN => assumption
  case hA => exact rfl
  case he => with_unfolding_all rfl
  case hb => with_unfolding_all rfl
  case kd => decide
  case ku => decide
  case d1 => with_unfolding_all assumption
  case d2 => with_unfolding_all assumption
  case d3 => with_unfolding_all assumption
  case d4 => with_unfolding_all assumption
  case d5 => with_unfolding_all assumption
  case hm => with_unfolding_all rfl
  case hl => assumption
  case hi => assumption
  case hlay => assumption
  case hQ =>
    intro h' tk' m' F'
    dsimp only
    wrow_close)
