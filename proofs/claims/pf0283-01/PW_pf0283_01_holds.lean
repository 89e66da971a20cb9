import PyProof.Rows.All
import Wide.All
import OpenK.AllK
import Wide.FinOn
import PySem.Challenge.RW_pf0283_01
open PySem PySem.W PyProof.Rows
set_option Elab.async false
namespace Mine
set_option maxRecDepth 100000 in
set_option maxHeartbeats 8000000 in
open_top hd for PySem.Challenge.rw_pf0283_01
theorem cc {a b c d e f g h P : Prop} (q : a → b → c → d → e → f → g → h → P) (z : (a ∧ b ∧ c) ∧ d ∧ e ∧ f ∧ g ∧ h) : P := q z.1.1 z.1.2.1 z.1.2.2 z.2.1 z.2.2.1 z.2.2.2.1 z.2.2.2.2.1 z.2.2.2.2.2
end Mine
-- words for the rules of the walk; join.py makes them local
local macro_rules | `(tactic| walk_at "k3") => `(tactic| ((refine ⟨⟨?_, ?_, ?_⟩, ?_, ?_, ?_, ?_, ?_⟩); (iterate 3 k_asm)))
local macro_rules | `(tactic| walk_at "ends") => `(tactic| (k_asm; (first | exact rfl | assumption); ktr_room; ktr_units))
local macro_rules | `(tactic| walk_at "std") => `(tactic| (walk_at "k3"; k_asm; walk_at "ends"))
local macro_rules | `(tactic| walk_at "tidy") => `(tactic| ((try dsimp only); (try k_fold)))
set_option compiler.extract_closed false
namespace Mine
open PySem.Calls PyProof.Rows.LCg PyProof.Rows.LCt
abbrev tupO (its : Array Value) (k : Nat) : Obj := ⟨.type "tuple", none, .seq its k, #[]⟩
section
variable {prog : Program} {w : World} {A : Around} {E : Value → Shared → Prop} {s : Shared} {h₀ : Heap} {L : Addr} {m : Str → Option Value} {env : Env}
def CompSrcTT (prog : Program) (w : World) (A : Around) (h₀ : Heap) (L : Addr) (m : Str → Option Value) (env : Env) (ct elt : PySem.Expr) (x : Str) (scope : Scope) (cl : List (Str × Addr)) (Fin : Shared → List Value → List (Addr × Obj) → Prop) (xv : Value) (s₁ : Shared) : Prop :=
  ∃ ax its k news, xv = .ref ax ∧ A.handled = none ∧ Fr h₀ L s₁.heap m ∧ News h₀ L s₁.heap news ∧ (ax, tupO its k) ∈ news ∧ its.size ≤ sizeLine ∧
    ∀ s₂ : Shared, (∃ h, s₂ = { s₁ with heap := h }) → CompRestT prog w A h₀ L m env ct elt x scope cl s₂ (fun nw => (ax, tupO its k) ∈ nw) (fun i v => its[i]? = some v) (Fin s₂) its.size 0 [] news
theorem CompSrcTT.intro {ct elt : PySem.Expr} {x : Str} {scope : Scope} {cl : List (Str × Addr)} {Fin : Shared → List Value → List (Addr × Obj) → Prop} {ax : Addr} {its : Array Value} {k : Nat} {news : List (Addr × Obj)} {s₁ : Shared}
    (hh : A.handled = none) (F : Fr h₀ L s₁.heap m) (N : News h₀ L s₁.heap news) (hm : (ax, tupO its k) ∈ news) (hsz : its.size ≤ sizeLine)
    (h : ∀ g, CompRestT prog w A h₀ L m env ct elt x scope cl { s₁ with heap := g } (fun nw => (ax, tupO its k) ∈ nw) (fun i v => its[i]? = some v) (Fin { s₁ with heap := g }) its.size 0 [] news) :
    CompSrcTT prog w A h₀ L m env ct elt x scope cl Fin (.ref ax) s₁ := ⟨ax, its, k, news, rfl, hh, F, N, hm, hsz, fun _ ⟨g, e⟩ => e ▸ h g⟩
theorem comp_tup {ct elt iter : PySem.Expr} {x y : Str} {px py : Pos} {scope : Scope} {cl : List (Str × Addr)} {pos spos : Pos} {Q : Flow → Shared → Prop} (_F₀ : Fr h₀ L s.heap m) (hLe : env.locals = L)
    (hsw : swapsWith (.ListComp elt [⟨.Name x px, iter, [ct], 0⟩] scope pos) (some (.Name y py)) spos.line env = pure true)
    (hclos : closureFor scope env = pure cl) (hcell : ∀ z ∈ scope.names, z.2 ≠ .cell) (hkind : scope.kind = .function)
    (hnames : ∀ z ∈ scope.names, z.2 = .local → scope.names.lookup z.1 = some .local) (hx : scope.names.lookup x = some .local)
    (hy : env.kindOf y = some .local) (hp : (env.scope.kind == .class || (env.scope.kind == .module && env.locals != env.globals)) = false)
    (h : wpAny (model prog w) A (eval iter env) (CompSrcTT prog w A h₀ L m env ct elt x scope cl (fun s₂ => FinA h₀ L m s₂ y Q)) E s)
    (hs : ∀ x, foldedSetIterable iter env x = pure x := by intro _; rfl) :
    wpAny (model prog w) A (exec (.Assign [.Name y py] (.ListComp elt [⟨.Name x px, iter, [ct], 0⟩] scope pos) spos) env) Q E s := by
  subst hLe
  rw [exec_Assign_Name_used _ _ _ _ hsw]
  refine wpAny_bind (wpAny_standAt (wpAny_bind ?_))
  show wpAny _ A (do let _ ← comprehension (.ListComp elt [⟨.Name x px, iter, [ct], 0⟩] scope pos) scope env _ (newList []) false (eval iter env) (some (assign (.Name y py) env))) _ _ s
  refine wpAny_bind (wpAny_mono (wpAny_comprehension_free (use := some (assign (.Name y py) env)) (Q := fun _ s' => Q .next s') rfl hs hclos hkind hnames
    (wpAny_mono h (fun xv s₁ h₁ => ?_) fun _ _ e => e)) (fun _ s' hq => wpAny_pure (wpAny_pure hq)) fun _ _ e => e)
  obtain ⟨ax, its, k, news, rfl, hh, F, N, hm, hsz, R⟩ := h₁
  have at' : ∀ {h : Heap} {nw : List (Addr × Obj)}, News h₀ env.locals h nw → (ax, tupO its k) ∈ nw → h.IsTuple ax its := fun N' hm' => ⟨_, (N' _ hm').1, rfl, _, rfl⟩
  have hl := at' N hm
  have hlt : ax < s₁.heap.objs.size := by obtain ⟨_, e, _⟩ := hl; exact Heap.lt_size e
  refine wpAny_pyIter_tuple hl ?_
  have up : ∀ b o, s₁.heap.get? b = some o → (s₁.heap.push { cls := .type "tuple_iterator", data := .fields #[.ref ax, .int 0 0] }).get? b = some o := fun b o e => Heap.get?_push_of_some _ e
  refine block_T (Walks.tuple hh s₁.heap.objs.size ax (Nat.ne_of_lt hlt) its) hsz (fun i h st => by obtain ⟨o, e, _⟩ := st.1; exact ⟨o, e⟩)
    (fun i h h' o nw st e e' _ N' S' => ⟨by obtain ⟨o', q, r⟩ := st.1; rw [e] at q; cases q; exact ⟨o, e', r⟩, at' N' S'⟩) hcell hkind hx ⟨⟨_, Heap.get?_push_size _ rfl, rfl, rfl⟩, hl.push _⟩ (fun b hb => ?_)
    (F.keeps up) (N.grown up) (Nat.ne_of_lt F.ns.lt) (next_is_new F) (fun p hp => Nat.ne_of_lt (Heap.lt_size (N p hp).1)) hm (R _ ⟨_, rfl⟩) ?_
  · show b < (s₁.heap.push _).objs.size
    rw [Heap.size_push]
    rcases List.mem_cons.mp hb with rfl | hb
    · exact Nat.lt_succ_self _
    · rw [List.mem_singleton.mp hb]; exact Nat.lt_succ_of_lt hlt
  · intro D C h' tk m' ys news' F' N' o1 hn hC₀ hD₀ hCL hDL hCD offC fin
    show wpAny _ A (assign (.Name y py) env (.ref D)) _ _ _
    refine wpAny_assign_Name (wpAny_storeName_local hy F'.ns (fun h₂ hn₂ hs₂ => ?_) hp)
    have hL₀ : h₀.get? env.locals = none := Heap.get?_none_of_le F'.above
    have F₂ : Fr h₀ env.locals h₂ (fun z => if z = y then some (.ref D) else m z) := ⟨hn₂, fun b o e => hs₂.extBut b o (fun q => by rw [q, hL₀] at e; cases e) (F'.keep b o e), F'.above⟩
    refine ⟨m', hn.sameBut hs₂ hCL, fun h'' hs'' => fin D h'' _ (F₂.change hs'' hCL hC₀) (fun p hp => ?_) o1⟩
    have z : h₂.get? p.1 = some p.2 := hs₂.extBut _ _ (N' p hp).2.1 (N' p hp).1
    refine ⟨hs''.extBut _ _ ?_ z, (N' p hp).2⟩
    rcases List.mem_cons.mp hp with rfl | hp
    · exact Ne.symm hCD
    · exact offC p hp
end
end Mine
namespace Mine
theorem fresh_C1 : True := by
  w_top off
  trivial
theorem lt17 : ∀ p : Nat, p < 17 → (p = 0 ∨ p = 1 ∨ p = 2 ∨ p = 3 ∨ p = 4 ∨ p = 5 ∨ p = 6 ∨ p = 7 ∨ p = 8 ∨ p = 9 ∨ p = 10 ∨ p = 11 ∨ p = 12 ∨ p = 13 ∨ p = 14 ∨ p = 15 ∨ p = 16) := by decide
theorem execs_one {M : Model} {A : Around} {E : Value → Shared → Prop} {s : Shared} {Q : Flow → Shared → Prop} {st : Stmt} {env : Env} (h : wpAny M A (exec st env) Q E s) : wpAny M A (execs [st] env) Q E s :=
  wpAny_execs_cons (wpAny_mono h (fun f s' hf => by cases f <;> first | exact wpAny_execs_nil hf | exact hf) fun _ _ e => e)
def loE : List Int := [1, 8, 1, 1, 1, 1, 0, 0, 1, 2, 1, 1, 1, 1, 0, 1, 1]
def hiE : List (Option Int) := [some 2, some 65542, none, none, none, none, none, some 31, none, some 12, none, none, none, none, none, none, none]
def lo (p : Nat) : Int := loE.getD p 0
def hi (p : Nat) : Option Int := hiE.getD p none
def hiV : Option Int → Tok → Value
  | none, _ => .none
  | some k, t => .int k t
abbrev tupOf (vs : Array Value) : Obj := ⟨.type "tuple", none, .seq vs 0, #[]⟩
def EndsAt (news : List (Addr × Obj)) (l : Addr) : Prop := ∃ (vs : List Value) (n : Nat), (l, W.listOf vs.toArray n) ∈ news ∧ vs.length = 17 ∧ ∀ p : Nat, p < 17 → ∃ (d : Addr) (t t' : Tok), vs[p]? = some (.ref d) ∧ (d, (⟨.type "tuple", none, .seq #[.int (lo p) t, hiV (hi p) t'] 0, #[]⟩ : Obj)) ∈ news
def endsR : List (Int × Option Int) := [(1, some 2), (8, some 65542), (1, none), (1, none), (1, none), (1, none), (0, none), (0, some 31), (1, none), (2, some 12), (1, none), (1, none), (1, none), (1, none), (0, none), (1, none), (1, none)]
theorem ends_rs : ∀ p : Nat, p < 17 → endsR[p]? = some (lo p, hi p) := by decide
inductive RowsE : List PySem.Expr → List (Int × Option Int) → Prop
  | nil : RowsE [] []
  | both {a b : Int} {k1 k2 k3 : Nat} {p1 p2 p3 : Pos} {es : List PySem.Expr} {rs : List (Int × Option Int)} : RowsE es rs → RowsE (.Tuple [.Constant (.int a) k1 p1, .Constant (.int b) k2 p2] k3 p3 :: es) ((a, some b) :: rs)
  | one {a : Int} {k1 k2 k3 : Nat} {p1 p2 p3 : Pos} {es : List PySem.Expr} {rs : List (Int × Option Int)} : RowsE es rs → RowsE (.Tuple [.Constant (.int a) k1 p1, .Constant .none k2 p2] k3 p3 :: es) ((a, none) :: rs)
def RowAt (own : List (Addr × Obj)) (vs : List Value) (rs : List (Int × Option Int)) : Prop := vs.length = rs.length ∧ ∀ (p : Nat) (r : Int × Option Int), rs[p]? = some r → ∃ (d : Addr) (t t' : Tok), vs[p]? = some (.ref d) ∧ (d, (⟨.type "tuple", none, .seq #[.int r.1 t, hiV r.2 t'] 0, #[]⟩ : Obj)) ∈ own
theorem rows_cons {own : List (Addr × Obj)} {vs : List Value} {rs : List (Int × Option Int)} {d : Addr} {r : Int × Option Int} {t t' : Tok} (h : RowAt own vs rs) :
    RowAt (own ++ [(d, (⟨.type "tuple", none, .seq #[.int r.1 t, hiV r.2 t'] 0, #[]⟩ : Obj))]) (.ref d :: vs) (r :: rs) := by
  refine ⟨congrArg (· + 1) h.1, fun p q hq => ?_⟩
  cases p with
  | zero => cases hq; exact ⟨d, t, t', rfl, List.mem_append.mpr (.inr (.head _))⟩
  | succ p =>
    obtain ⟨d', u, u', e, hm⟩ := h.2 p q hq
    exact ⟨d', u, u', e, List.mem_append.mpr (.inl hm)⟩
section
variable {M : Model} {A : Around} {E : Value → Shared → Prop} {h₀ : Heap} {L : Addr} {m : Str → Option Value} {env : Env} {pos : Pos}
theorem rows_walk {es : List PySem.Expr} {rs : List (Int × Option Int)} {s : Shared} {news : List (Addr × Obj)} {Q : List Value → Shared → Prop} (hr : RowsE es rs) (F : Fr h₀ L s.heap m) (N : News h₀ L s.heap news)
    (h : ∀ vs own h' tk', Fr h₀ L h' m → News h₀ L h' (own ++ news) → RowAt own vs rs → Q vs { s with heap := h', toks := tk' }) : wpAny M A (spliced (backTo pos (starEach es env))) Q E s := by
  induction hr generalizing s news Q with
  | nil => exact spliced_none (h [] [] s.heap s.toks F N ⟨rfl, fun _ _ h => nomatch h⟩)
  | both _ ih =>
    refine spliced_more (Tuple_ (spliced_more (wpAny_Constant_int (spliced_more (wpAny_Constant_int (spliced_none (newTuple_N (news := news) F N (fun h' F' N' => ?_))))))))
    exact ih F' N' fun vs own h2 tk2 F2 N2 hz => h _ (own ++ [_]) h2 tk2 F2 (by rw [List.append_assoc]; exact N2) (rows_cons (r := (_, some _)) hz)
  | one _ ih =>
    refine spliced_more (Tuple_ (spliced_more (wpAny_Constant_int (spliced_more (wpAny_Constant_none (spliced_none (newTuple_N (news := news) F N (fun h' F' N' => ?_))))))))
    exact ih F' N' fun vs own h2 tk2 F2 N2 hz => h _ (own ++ [_]) h2 tk2 F2 (by rw [List.append_assoc]; exact N2) (rows_cons (r := (_, none)) (t' := 0) hz)
theorem rows_list {es : List PySem.Expr} {rs : List (Int × Option Int)} {s : Shared} {news : List (Addr × Obj)} {Q : Value → Shared → Prop} (hr : RowsE es rs) (hl : rs.length ≤ 100) (F : Fr h₀ L s.heap m) (N : News h₀ L s.heap news)
    (h : ∀ l vs own h' tk', Fr h₀ L h' m → News h₀ L h' ((l, W.listOf vs.toArray 0) :: (own ++ news)) → RowAt own vs rs → Q (.ref l) { s with heap := h', toks := tk' }) : wpAny M A (eval (.List es pos) env) Q E s :=
  List_ (rows_walk hr F N fun vs own h' _ F' N' hz => newList_N F' N' (fun h2 F2 N2 => h _ vs own h2 _ F2 N2 hz) (by have := hz.1; rw [sizeLine_eq]; omega))
end
local macro_rules | `(tactic| walk_at "eval List") => `(tactic| (k_here; (with_reducible show wpAny _ _ (eval (PySem.Expr.List (PySem.Expr.Tuple _ _ _ :: _) _) _) _ _ _); (with_reducible refine rows_list (by repeat' (first | exact RowsE.nil | apply RowsE.both | apply RowsE.one)) (by decide) (by k_asm) (by k_asm) (fun l9 vs9 own9 h9 tk9 F9 N9 hz9 => ?_)); (try dsimp only)))
set_option maxRecDepth 100000 in
set_option maxHeartbeats 8000000 in
theorem ends_ok {w : World} {mg mb : Str → Option Value} {mean : ExcName → Option Value}
   {dp un : Nat} {gd : Option (List Code)} {cn : Str} {cs : Scope} {a : Addr} {ccd : Value} {cl : List (Str × Addr)} {outer : List Env} {A₀ : Around} {base h₀ : Heap} {L : Addr} {m : Str → Option Value} {news : List (Addr × Obj)} {s : Shared} {Q E : Value → Shared → Prop}
   (B : Below A₀ base outer h₀) (F : Fr h₀ L s.heap m) (X : (hd.heap_39 w.params).In h₀) (N : News h₀ L s.heap news) (T : Top hd.view_39 (looseW hd.view_39 []) mean mg mb h₀) (hk : cs.kind = .function) (hdp : dp + 1 < recursionLimit) (hu : un + 8 < cLine)
   (ret : ∀ l own h' tk', Fr h₀ L h' m → News h₀ L h' (own ++ news) → EndsAt (own ++ news) l → Q (.ref l) { s with heap := h', toks := tk' }) :
   wpAny (model Challenge.rw_pf0283_01.row.prog w) (ktrTop dp un gd cn cs L a ccd cl outer) (call (.ref 100) []) Q E s := by
  revert X; k_fill; intro X
  refine wpAny_call ?_
  k_dflt cell_enter
  k_steps
  rename RowAt _ _ _ => hz
  rename News _ _ _ (_ :: _) => hN
  refine ret _ ((_, _) :: _) _ _ (by k_asm) hN ⟨_, 0, .head _, hz.1, fun p hp => ?_⟩
  obtain ⟨d, t, t', e, hm⟩ := hz.2 p (lo p, hi p) (ends_rs p hp)
  exact ⟨d, t, t', e, .tail _ (List.mem_append.mpr (.inl hm))⟩
end Mine
namespace Mine
theorem fresh_C2 : True := by
  w_top off
  trivial
theorem lo_bound (p : Nat) (h : p < 17) : 0 ≤ lo p ∧ lo p ≤ 8 := by
  have e : ∀ p : Fin 17, 0 ≤ lo p.val ∧ lo p.val ≤ 8 := by decide
  exact e ⟨p, h⟩
theorem hi_bound (p : Nat) (h : p < 17) : ∀ v, hi p = some v → 0 ≤ v ∧ v ≤ 65542 := by
  have e : ∀ p : Fin 17, ∀ v ∈ hi p.val, 0 ≤ v ∧ v ≤ 65542 := by decide
  exact fun v hv => e ⟨p, h⟩ v hv
theorem fm_bound (x k : Int) (h : 0 < k) : 0 ≤ x.fmod k ∧ x.fmod k < k := ⟨Int.fmod_nonneg_of_pos x h, Int.fmod_lt_of_pos x h⟩
theorem fd_bound (y : Int) (h : 0 ≤ y) : 0 ≤ y.fdiv 6 ∧ y.fdiv 6 ≤ y := by
  rw [Int.fdiv_eq_ediv_of_nonneg y (by decide)]; omega
theorem pow_bound (x : Int) : 0 ≤ (2 : Int) ^ (x.fmod 90).toNat ∧ (2 : Int) ^ (x.fmod 90).toNat ≤ 2 ^ 89 := by
  have h := fm_bound x 90 (by decide)
  have h9 : (x.fmod 90).toNat ≤ 89 := by omega
  generalize (x.fmod 90).toNat = n at h9
  have h2 : 2 ^ n ≤ 2 ^ 89 := Nat.pow_le_pow_right (by decide) h9
  have e : ((2 : Int) ^ n) = ((2 ^ n : Nat) : Int) := by simp
  rw [e]
  refine ⟨Int.natCast_nonneg _, ?_⟩
  exact_mod_cast h2
theorem news_right {h₀ h : Heap} {L : Addr} {own news : List (Addr × Obj)} (N : News h₀ L h (own ++ news)) : News h₀ L h news := fun p hp => N p (List.mem_append_right _ hp)
theorem ends_item {prog : Program} {w : World} {A : Around} {E : Value → Shared → Prop} {s : Shared} {h₀ : Heap} {L l : Addr} {news : List (Addr × Obj)} {value slice : PySem.Expr} {k : Int} {u : Tok} {Q : Value → Shared → Prop}
    (N : News h₀ L s.heap news) (hE : EndsAt news l) (h0 : 0 ≤ k) (h1 : k < 17)
    (hn : ∀ d t b, b = lo k.toNat → hi k.toNat = none → 0 ≤ b → b ≤ 8 → (d, (⟨.type "tuple", none, .seq #[.int b t, .none] 0, #[]⟩ : Obj)) ∈ news → Q (.ref d) s)
    (hv : ∀ d t b t' v, b = lo k.toNat → hi k.toNat = some v → 0 ≤ b → b ≤ 8 → 0 ≤ v → v ≤ 65542 → (d, (⟨.type "tuple", none, .seq #[.int b t, .int v t'] 0, #[]⟩ : Obj)) ∈ news → Q (.ref d) s)
    (hs : subscripted slice false (.ref l) (.int k u) = operate [.ref l, .int k u] (getItem (.ref l) (.int k u)) := by with_unfolding_all rfl) :
    wpAny (model prog w) A (subscriptTail value slice (.ref l) (.int k u)) Q E s := by
  obtain ⟨vs, n, hm, hlen, hp⟩ := hE
  obtain ⟨d, t, t', e1, e2⟩ := hp k.toNat (by omega)
  refine item_litK (News.isList N hm) h0 (by omega) e1 ?_ hs
  cases hh : hi k.toNat with
  | none => rw [hh] at e2; exact hn d t _ rfl hh (lo_bound _ (by omega)).1 (lo_bound _ (by omega)).2 e2
  | some v => rw [hh] at e2; exact hv d t _ t' v rfl hh (lo_bound _ (by omega)).1 (lo_bound _ (by omega)).2 (hi_bound _ (by omega) v hh).1 (hi_bound _ (by omega) v hh).2 e2
local macro_rules | `(tactic| walk_at "call ref") => `(tactic| (k_here; (with_reducible show wpAny _ _ (call (Value.ref 100) _) _ _ _); k_dflt (refine' cc ends_ok ?k ?kR; (case k => walk_at "std")); intro l9 own9 h9 tk9 F9 N9 E9; walk_at "tidy"))
local macro_rules | `(tactic| walk_at "subscriptTail") => `(tactic| (k_here; (with_reducible show wpAny _ _ (subscriptTail _ _ (Value.ref _) (Value.int _ _)) _ _ _); with_unfolding_all (refine' ends_item ?k1 ?k2 ?k3 ?k4 (fun d9 t9 b9 c9 e9 i9 j9 m9 => ?_) (fun d9 t9 b9 u9 v9 c9 e9 i9 j9 i9' j9' m9 => ?_) ?k6; (case k1 => k_asm); (case k2 => assumption); (case k3 => omega); (case k4 => omega); (case k6 => with_unfolding_all rfl))))
set_option maxRecDepth 100000 in
set_option maxHeartbeats 8000000 in
theorem value_ok {w : World} {mg mb : Str → Option Value} {mean : ExcName → Option Value}
   {dp un : Nat} {gd : Option (List Code)} {cn : Str} {cs : Scope} {a : Addr} {ccd : Value} {cl : List (Str × Addr)} {outer : List Env} {A₀ : Around} {base h₀ : Heap} {L : Addr} {m : Str → Option Value} {news : List (Addr × Obj)} {s : Shared} {Q E : Value → Shared → Prop}
   {place y : Int} {tp ty : Tok} (hp0 : 0 ≤ place) (hp1 : place < 17) (hy0 : 0 ≤ y) (hy1 : y < 1000003)
   (B : Below A₀ base outer h₀) (F : Fr h₀ L s.heap m) (X : (hd.heap_39 w.params).In h₀) (N : News h₀ L s.heap news) (T : Top hd.view_39 (looseW hd.view_39 []) mean mg mb h₀) (hk : cs.kind = .function) (hdp : dp + 2 < recursionLimit) (hu : un + 16 < cLine)
   (ret : ∀ v t h' tk', -10 ^ 30 < v → v < 10 ^ 30 → Fr h₀ L h' m → News h₀ L h' news → Q (.int v t) { s with heap := h', toks := tk' }) :
   wpAny (model Challenge.rw_pf0283_01.row.prog w) (ktrTop dp un gd cn cs L a ccd cl outer) (call (.ref 147) [.int place tp, .int y ty]) Q E s := by
  revert X; k_fill; intro X
  refine wpAny_call ?_
  k_dflt cell_enter
  k_steps
  all_goals (refine ret _ _ _ _ ?_ ?_ (by k_asm) (news_right (by k_asm)))
  all_goals (
    clear ret
    (have f1 := fm_bound (y.fdiv 6) 20 (by decide)); (have f2 := fm_bound (y.fdiv 6) 9 (by decide)); (have f3 := fm_bound (y.fdiv 6) 50 (by decide))
    (have f4 := pow_bound (y.fdiv 6)); (have f5 := fd_bound y hy0)
    omega)
end Mine
namespace Mine
theorem fresh_C3 : True := by
  w_top off
  trivial
abbrev wantL (v : Nat → Int) (t : Nat → Tok) (tb : Addr) : List Value := [.int (v 0) (t 0), .int (v 1) (t 1), .int (v 2) (t 2), .int (v 3) (t 3), .int (v 4) (t 4), .int (v 5) (t 5), .int (v 6) (t 6), .int (v 7) (t 7), .int (v 8) (t 8), .int (v 9) (t 9), .int (v 10) (t 10), .int (v 11) (t 11), .int (v 12) (t 12), .int (v 13) (t 13), .int (v 14) (t 14), .int (v 15) (t 15), .int (v 16) (t 16), .bool true, .bool true, .bool false, .ref tb]
def okAt (v : Nat → Int) (q : Int) : Prop := lo q.toNat ≤ v q.toNat ∧ ∀ h, hi q.toNat = some h → v q.toNat ≤ h
def okH (mh : Int) (x : Int) : Prop := 1 ≤ x ∧ x ≤ mh
def May (v : Nat → Int) (hs : List Int) : Prop := (∀ p : Nat, p < 17 → okAt v p) ∧ v 14 < v 9 ∧ hs ≠ [] ∧ ∀ x ∈ hs, okH (v 3) x
theorem want_get {v : Nat → Int} {t : Nat → Tok} {tb : Addr} (p : Nat) (h : p < 17) : (wantL v t tb)[p]? = some (.int (v p) (t p)) := by
  have := lt17 p h
  rcases this with rfl | rfl | rfl | rfl | rfl | rfl | rfl | rfl | rfl | rfl | rfl | rfl | rfl | rfl | rfl | rfl | rfl <;> rfl
theorem May.at {v : Nat → Int} {hs : List Int} (h : May v hs) {k : Int} (h0 : 0 ≤ k) (h1 : k < 17) : okAt v k := by
  have e := h.1 k.toNat (by omega)
  rwa [Int.toNat_of_nonneg h0] at e
theorem notMay_lo {v : Nat → Int} {hs : List Int} {k : Int} (h0 : 0 ≤ k) (h1 : k < 17) (hlt : v k.toNat < lo k.toNat) : ¬ May v hs := fun h => by
  have := (h.at h0 h1).1
  omega
theorem notMay_hi {v : Nat → Int} {hs : List Int} {k b : Int} (h0 : 0 ≤ k) (h1 : k < 17) (e : hi k.toNat = some b) (hlt : b < v k.toNat) : ¬ May v hs := fun h => by
  have := (h.at h0 h1).2 b e
  omega
theorem okAt_none {v : Nat → Int} {k : Int} (e : hi k.toNat = none) (h : lo k.toNat ≤ v k.toNat) : okAt v k := ⟨h, fun b h' => by rw [e] at h'; cases h'⟩
theorem okAt_some {v : Nat → Int} {k b : Int} (e : hi k.toNat = some b) (h : lo k.toNat ≤ v k.toNat) (h2 : v k.toNat ≤ b) : okAt v k := ⟨h, fun b' h' => by rw [e] at h'; cases h'; exact h2⟩
theorem ok_step {v : Nat → Int} {pre : List Int} {k : Int} (h : ∀ q ∈ pre, okAt v q) (hk : okAt v k) : ∀ q ∈ pre ++ [k], okAt v q := by
  intro q hq
  rcases List.mem_append.mp hq with hq | hq
  · exact h q hq
  · rw [List.mem_singleton.mp hq]; exact hk
theorem ok_all {v : Nat → Int} {n : Nat} (h : ∀ q ∈ rangeKs 0 n, okAt v q) : ∀ p : Nat, p < n → okAt v p := fun p hp => h p (kre_mem (by omega) (by omega))
theorem news_a {h₀ h : Heap} {L : Addr} {own news tl : List (Addr × Obj)} {c A B : Addr × Obj} (N : News h₀ L h (own ++ c :: A :: B :: (news ++ tl))) : News h₀ L h (A :: B :: news) := fun p hp => N p (by
  simp only [List.mem_append, List.mem_cons] at hp ⊢
  rcases hp with hp | hp | hp <;> simp [hp])
theorem sub_a {own news tl : List (Addr × Obj)} {c A B : Addr × Obj} : ∀ p ∈ c :: A :: B :: news, p ∈ own ++ c :: A :: B :: (news ++ tl) := fun p hp => by
  simp only [List.mem_append, List.mem_cons] at hp ⊢
  rcases hp with hp | hp | hp | hp <;> simp [hp]
theorem sub_b {own news tl : List (Addr × Obj)} {c A B : Addr × Obj} : ∀ p ∈ tl, p ∈ own ++ c :: A :: B :: (news ++ tl) := fun p hp => by
  simp only [List.mem_append, List.mem_cons]; simp [hp]
theorem may_iff {v : Nat → Int} {hs : List Int} {ys : List Value} (h : ∀ p : Nat, p < 17 → okAt v p) (hys : ys = [] ↔ ∀ x ∈ hs, okH (v 3) x) : May v hs ↔ v (Int.toNat 14) < v (Int.toNat 9) ∧ 0 < hs.length ∧ ys.length = 0 := by
  rw [List.length_eq_zero_iff, hys, List.length_pos_iff]
  exact ⟨fun x => x.2, fun x => ⟨h, x⟩⟩
theorem news_c {h₀ h : Heap} {L : Addr} {news : List (Addr × Obj)} {d c A B : Addr × Obj} (N : News h₀ L h (d :: c :: A :: B :: news)) : News h₀ L h (A :: B :: news) := fun p hp => N p (.tail _ (.tail _ hp))
theorem rest_ind (T : Nat → Nat → List Value → Prop) (n : Nat) (Inv : Nat → List Value → Prop) (z : ∀ ys, Inv n ys → T 0 n ys)
    (st : ∀ k i ys, i + k + 1 = n → Inv i ys → (∀ ys', Inv (i + 1) ys' → T k (i + 1) ys') → T (k + 1) i ys) (h : Inv 0 []) : T n 0 [] := by
  have all : ∀ k i ys, i + k = n → Inv i ys → T k i ys := by
    intro k
    induction k with
    | zero => intro i ys e hi; obtain rfl : i = n := by omega
              exact z ys hi
    | succ k ih => intro i ys e hi; exact st k i ys (by omega) hi fun ys' h' => ih (i + 1) ys' (by omega) h'
  exact all n 0 [] (by omega) h
theorem ints_at {vs : List Value} {ns : List Int} (h : IntsAre vs ns) {i : Nat} {v : Value} (e : vs.toArray[i]? = some v) : ∃ x t, ns[i]? = some x ∧ v = .int x t := by
  have e' : vs[i]? = some v := by simpa using e
  have hl := h.length
  obtain ⟨hlt, _⟩ := List.getElem?_eq_some_iff.mp e'
  obtain ⟨t, ht⟩ := h.get i ns[i] (by simp [← hl, hlt])
  rw [ht] at e'
  exact ⟨_, t, by simp [← hl, hlt], (Option.some.inj e').symm⟩
theorem want_item {prog : Program} {w : World} {A : Around} {E : Value → Shared → Prop} {s : Shared} {h₀ : Heap} {L l : Addr} {news : List (Addr × Obj)} {value slice : PySem.Expr} {k : Int} {u : Tok} {Q : Value → Shared → Prop}
    {v : Nat → Int} {t : Nat → Tok} {tb : Addr} {n : Nat}
    (N : News h₀ L s.heap news) (hm : (l, W.listOf (wantL v t tb).toArray n) ∈ news) (h0 : 0 ≤ k) (h1 : k < 17)
    (h : Q (.int (v k.toNat) (t k.toNat)) s)
    (hs : subscripted slice false (.ref l) (.int k u) = operate [.ref l, .int k u] (getItem (.ref l) (.int k u)) := by with_unfolding_all rfl) :
    wpAny (model prog w) A (subscriptTail value slice (.ref l) (.int k u)) Q E s :=
  item_litK (News.isList N hm) h0 (by omega) (want_get _ (by omega)) h hs
local macro_rules | `(tactic| walk_at "execs cons") => `(tactic| (k_here; (with_reducible refine execs_one ?_)))
local macro_rules | `(tactic| walk_at "call ref") => `(tactic| (k_here; (with_reducible show wpAny _ _ (call (Value.ref 100) _) _ _ _); k_dflt (refine' cc ends_ok ?k ?kR; (case k => walk_at "std")); intro l9 own9 h9 tk9 F9 N9 E9; walk_at "tidy"))
local macro_rules | `(tactic| walk_at "subscriptTail") => `(tactic| (k_here; (with_reducible show wpAny _ _ (subscriptTail _ _ (Value.ref _) (Value.int _ _)) _ _ _); with_unfolding_all (refine' want_item ?k1 ?k2 ?k3 ?k4 ?_ ?k6; (case k1 => k_asm); (case k2 => k_mem); (case k3 => omega); (case k4 => omega); (case k6 => with_unfolding_all rfl))))
local macro_rules | `(tactic| walk_at "subscriptTail") => `(tactic| (k_here; (with_reducible show wpAny _ _ (subscriptTail _ _ (Value.ref _) (Value.int _ _)) _ _ _); with_unfolding_all (refine' ends_item ?k1 ?k2 ?k3 ?k4 (fun d9 t9 b9 c9 e9 i9 j9 m9 => ?_) (fun d9 t9 b9 u9 v9 c9 e9 i9 j9 i9' j9' m9 => ?_) ?k6; (case k1 => k_asm); (case k2 => assumption); (case k3 => omega); (case k4 => omega); (case k6 => with_unfolding_all rfl))))
local macro_rules | `(tactic| walk_at "exec Assign cons ListComp") => `(tactic| (k_here; k_dflt (refine comp_tup (by k_asm) (by rfl) (by with_unfolding_all rfl) (by with_unfolding_all rfl) (by decide) (by rfl) (by decide) (by rfl) (by rfl) (by rfl) ?_)))
local macro_rules | `(tactic| walk_at "call builtin:len") => `(tactic| (k_here; (with_reducible show wpAny _ _ (call (Value.builtin "len") [Value.ref _]) _ _ _); k_dflt (refine PyProof.Rows.len_list (News.isList (by k_asm) (by k_mem)) (by simp only [List.size_toArray]; omega) ?_)))
local macro_rules | `(tactic| walk_at "cellC enter") => `(tactic| (refine' code_defC ?k1 ?k2 ?k3 ?k4 ?k5 ?kA ?kF ?kK ?k6 ?k7 ?k8 ?k9 ?kB ?kD ?_ ?c2 ?c3 ?c4; (case kA => exact rfl); (case kF => exact rfl); (case kK => first | exact rfl | assumption); (case k1 => k_asm); (case k2 => k_asm); (case k3 => k_asm); (case k4 => k_asm); (case k5 => k_asm); (case k6 => k_is); (case k7 => k_is); (case k8 => ktr_room); (case k9 => exact BindsTo.of_eq rfl); (case kB => exact rfl); (case kD => decide +kernel); (case c2 => exact rfl); (case c3 => exact rfl); (case c4 => exact rfl); k_whole; intro g' L' h' tk' cells' FG' F' N' Y' B' X' T' l1; (try k_lt l1); k_cells Y'; (try simp only [List.cons_append, List.nil_append] at N'); (try dsimp only); (try k_lift B'); (try k_fold)))
set_option maxRecDepth 100000 in
set_option maxHeartbeats 8000000 in
theorem may_ok {w : World} {mg mb : Str → Option Value} {mean : ExcName → Option Value}
   {dp un : Nat} {gd : Option (List Code)} {cn : Str} {cs : Scope} {a : Addr} {ccd : Value} {cl : List (Str × Addr)} {outer : List Env} {A₀ : Around} {base h₀ : Heap} {L : Addr} {m : Str → Option Value} {news : List (Addr × Obj)} {s : Shared} {Q E : Value → Shared → Prop}
   {v : Nat → Int} {t : Nat → Tok} {tb lw : Addr} {n n' : Nat} {hvs : List Value} {hs : List Int}
   (hi' : IntsAre hvs hs) (hlen : hs.length ≤ 8)
   (B : Below A₀ base outer h₀) (F : Fr h₀ L s.heap m) (X : (hd.heap_39 w.params).In h₀) (N : News h₀ L s.heap ((lw, W.listOf (wantL v t tb).toArray n) :: (tb, (⟨.type "tuple", none, .seq hvs.toArray n', #[]⟩ : Obj)) :: news)) (T : Top hd.view_39 (looseW hd.view_39 []) mean mg mb h₀) (hk : cs.kind = .function) (hdp : dp + 3 < recursionLimit) (hu : un + 24 < cLine)
   (ret : ∀ b h' tk', (b = true ↔ May v hs) → Fr h₀ L h' m → News h₀ L h' ((lw, W.listOf (wantL v t tb).toArray n) :: (tb, (⟨.type "tuple", none, .seq hvs.toArray n', #[]⟩ : Obj)) :: news) → Q (.bool b) { s with heap := h', toks := tk' }) :
   wpAny (model Challenge.rw_pf0283_01.row.prog w) (ktrTop dp un gd cn cs L a ccd cl outer) (call (.ref 133) [.ref lw]) Q E s := by
  revert X; k_fill; intro X
  refine wpAny_call ?_
  first | k_dflt cell_enter | k_dflt walk_at "cellC enter"
  k_with "pyIter ref" => k_search (fun pre => ∀ q ∈ pre, okAt v q)
  k_steps
  · refine ret _ _ _ (iff_of_false (by decide) (notMay_lo (k := kN) (by omega) (by omega) ?_)) (by k_asm) (news_a (by k_asm)); omega
  · rename News _ _ _ (_ ++ _) => nE'
    refine kst_end () (by k_asm) nE' sub_a sub_b (by rfl) True.intro (List.forall_mem_nil _) (by kst_same) (ok_step kInv (okAt_none (by assumption) ?_)); omega
  · refine ret _ _ _ (iff_of_false (by decide) (notMay_lo (k := kN) (by omega) (by omega) ?_)) (by k_asm) (news_a (by k_asm)); omega
  · refine ret _ _ _ (iff_of_false (by decide) (notMay_hi (k := kN) (by omega) (by omega) (by assumption) ?_)) (by k_asm) (news_a (by k_asm)); omega
  · rename News _ _ _ (_ ++ _) => nE'
    refine kst_end () (by k_asm) nE' sub_a sub_b (by rfl) True.intro (List.forall_mem_nil _) (by kst_same) (ok_step kInv (okAt_some (by assumption) ?_ ?_)) <;> omega
  have kAll := ok_all kInv
  refine CompSrcTT.intro (by rfl) (by k_asm) (by k_asm) (by k_mem) (by rw [List.size_toArray, kLen, sizeLine_eq]; omega) ?_
  intro g'
  refine rest_ind (fun k i ys => LCt.CompRestT _ _ _ _ _ _ _ _ _ _ _ _ _ _ _ _ k i ys _) _ (fun i ys => (ys = [] ↔ ∀ x ∈ hs.take i, okH (v 3) x) ∧ ys.length ≤ i) ?_ ?_ (by simp)
  · rintro ys ⟨hys, hyl⟩
    refine LCt.CompRestT.zero ?_
    have hlen' : hvs.toArray.size = hs.length := by rw [List.size_toArray, kLen]
    rw [hlen'] at hys hyl
    rw [List.take_length] at hys
    have hMay := may_iff kAll hys
    k_steps
    all_goals (refine ret _ _ _ ?_ (by k_asm) (news_c (by k_asm)))
    all_goals (rw [hMay]; simp only [decide_eq_true_eq, beq_iff_eq, List.size_toArray, kLen] at *; omega)
  · rintro k i ys hik ⟨hys, hyl⟩ ih
    refine LCt.CompRestT.succ ?_
    intro v' I' oI' C' oC' D' m' h' tk' E' hv' hC' hx' F' N' off' ne'
    obtain ⟨x9, t9, hx9, rfl⟩ := ints_at hi' hv'
    have hnew : ∀ ys' : List Value, (ys' = [] ↔ ys = [] ∧ okH (v 3) x9) → ys'.length ≤ i + 1 → (ys' = [] ↔ ∀ x ∈ hs.take (i + 1), okH (v 3) x) ∧ ys'.length ≤ i + 1 := fun ys' h1 h2 => ⟨by
      rw [h1, hys, List.take_add_one, hx9]
      simp only [Option.toList_some, List.mem_append, List.mem_singleton, or_imp, forall_and, forall_eq], h2⟩
    have e3 : v (Int.toNat 3) = v 3 := rfl
    k_steps
    · rename News _ _ _ _ => nE'
      refine LCg.CompEnd.intro (by k_asm) nE' _ (fun p hp => hp) off' (by k_mem) (ih _ (hnew _ (by simp [okH]; omega) (by simp; omega)))
    · rename News _ _ _ _ => nE'
      refine LCg.CompEnd.intro (by k_asm) nE' _ (fun p hp => hp) off' (by k_mem) (ih _ (hnew _ (by simp [okH]; omega) (by simp; omega)))
    · rename News _ _ _ _ => nE'
      refine LCg.CompEnd.intro (by k_asm) nE' _ (fun p hp => hp) off' (by k_mem) (ih _ (hnew _ (by simp [okH]; omega) (by omega)))
end Mine
namespace Mine
open PySem.Calls
section
variable {prog : Program} {w : World} {A : Around} {E : Value → Shared → Prop} {s : Shared} {env : Env} {h₀ : Heap} {target : PySem.Expr} {body : List Stmt} {Q : Flow → Shared → Prop}
def TurnPost (h₀ : Heap) (L I : Addr) (o : Obj) (news : List (Addr × Obj)) (stored : List Str) (m₀ : Str → Option Value) (P : Prop) (s₁ : Shared) (Q : Flow → Shared → Prop) (f : Flow) (s₂ : Shared) : Prop :=
  match f with
  | .ret v => Q (.ret v) s₂
  | .brk => Q .next s₂
  | _ => ∃ h' tk m', s₂ = { s₁ with heap := h', toks := tk } ∧ Fr h₀ L h' m' ∧ News h₀ L h' ((I, o) :: news) ∧ (∀ z, stored.contains z = false → m' z = m₀ z) ∧ P
theorem fr_stored {L : Addr} {h : Heap} {m' m₀ : Str → Option Value} {stored : List Str} (F : Fr h₀ L h m') (hs : ∀ z, stored.contains z = false → m' z = m₀ z) : Fr h₀ L h (fun y => if stored.contains y = true then m' y else m₀ y) := by
  have e : (fun y => if stored.contains y = true then m' y else m₀ y) = m' := by
    funext y
    by_cases h : stored.contains y = true
    · rw [if_pos h]
    · rw [if_neg h]; exact (hs y (by simpa using h)).symm
  rw [e]; exact F
theorem items_ind {vs : List Value} {m₀ : Str → Option Value} {news : List (Addr × Obj)} {ax I : Addr} {lo : Obj} {cls : String} (Ok : Nat → Prop) (stored : List Str) (hlt : ∀ p ∈ news, p.1 < I) (hax : (ax, lo) ∈ news)
    (turn : ∀ (i : Nat) (v : Value), vs[i]? = some v → ∀ (u : Str → Option Value) (h : Heap) (tk : Nat) (o : Obj), o.cls = .type cls → Fr h₀ env.locals h (fun y => if stored.contains y = true then u y else m₀ y) → News h₀ env.locals h ((I, o) :: news) →
      wpAny (model prog w) A (assign target env v) (fun _ s₂ => wpAny (model prog w) A (execs body env) (TurnPost h₀ env.locals I o news stored m₀ (Ok i) { s with heap := h, toks := tk } Q) E s₂) E { s with heap := h, toks := tk })
    (done : ∀ (u : Str → Option Value) (h : Heap) (tk : Nat), (∀ i, i < vs.length → Ok i) → Fr h₀ env.locals h (fun y => if stored.contains y = true then u y else m₀ y) → News h₀ env.locals h news → Q .next { s with heap := h, toks := tk }) :
    ItemsRest prog w A E h₀ env target body Q s [(I, cls)] [(ax, lo)] (vs.map .val) m₀ news := by
  have all : ∀ (ws : List Value) (i : Nat), vs.drop i = ws → (∀ j, j < i → Ok j) → ∀ m : Str → Option Value, (∀ z, stored.contains z = false → m z = m₀ z) → ItemsRest prog w A E h₀ env target body Q s [(I, cls)] [(ax, lo)] (ws.map .val) m news := by
    intro ws
    induction ws with
    | nil =>
      intro i h1 h2 m hm
      exact ItemsRest.zero fun h tk F N => done m h tk (fun j hj => h2 j (Nat.lt_of_lt_of_le hj (List.drop_eq_nil_iff.mp h1))) (fr_stored F hm) N
    | cons v ws ih =>
      intro i h1 h2 m hm
      have hv : vs[i]? = some v := by
        have e : (vs.drop i)[0]? = some v := by rw [h1]; rfl
        simpa using e
      have hd : vs.drop (i + 1) = ws := by
        have e : (vs.drop i).drop 1 = ws := by rw [h1]; rfl
        rwa [List.drop_drop] at e
      refine ItemsRest.val fun h tk F => AllObj.cons fun o ho => AllObj.nil fun N => ?_
      refine wpAny_mono (turn i v hv m h tk o ho (fr_stored F hm) N) (fun _ s₂ h₂ => wpAny_mono h₂ (fun f s₃ h₃ => ?_) fun _ _ e => e) fun _ _ e => e
      have fin : (∃ h' tk' m', s₃ = { { s with heap := h, toks := tk } with heap := h', toks := tk' } ∧ Fr h₀ env.locals h' m' ∧ News h₀ env.locals h' ((I, o) :: news) ∧ (∀ z, stored.contains z = false → m' z = m₀ z) ∧ Ok i) →
          UnrEndW h₀ env.locals { s with heap := h, toks := tk } [(I, o)] (fun m' n' => SubL [(ax, lo)] n' ∧ ItemsRest prog w A E h₀ env target body Q s [(I, cls)] [(ax, lo)] (ws.map .val) m' n') s₃ := by
        rintro ⟨h', tk', m', e, F', N', hm', hok⟩
        refine ⟨h', tk', m', news, e, F', N', fun p hp q hq => ?_, ⟨hax, trivial⟩, ih (i + 1) hd (fun j hj => ?_) m' hm'⟩
        · rw [List.mem_singleton.mp hq]; exact Nat.ne_of_lt (hlt p hp)
        · rcases Nat.lt_or_eq_of_le (Nat.le_of_lt_succ hj) with h | rfl
          · exact h2 j h
          · exact hok
      cases f with
      | ret v => exact h₃
      | brk => exact h₃
      | next => exact fin h₃
      | cont => exact fin h₃
  exact all vs 0 rfl (fun _ h => absurd h (Nat.not_lt_zero _)) m₀ fun _ _ => rfl
end
end Mine
namespace Mine
theorem fresh_C6 : True := by
  w_top off
  trivial
theorem fmt_ok {n : Int} (h1 : -10 ^ 31 < n) (h2 : n < 10 ^ 31) : n.natAbs.log2 < 1920 := by
  by_cases h0 : n.natAbs = 0
  · rw [h0]; decide
  · rw [Nat.log2_lt h0]
    have e : n.natAbs < 10 ^ 31 := by omega
    exact Nat.lt_trans e (by decide +kernel)
theorem ints_mem {vs : List Value} {ns : List Int} (h : IntsAre vs ns) {v : Value} (e : v ∈ vs) : ∃ x t, x ∈ ns ∧ v = .int x t := by
  obtain ⟨i, hlt, rfl⟩ := List.mem_iff_getElem.mp e
  obtain ⟨x, t, h1, h2⟩ := ints_at (i := i) (v := vs[i]) h (by simp [hlt])
  exact ⟨x, t, List.mem_of_getElem? h1, h2⟩
theorem mem_ints {vs : List Value} {ns : List Int} (h : IntsAre vs ns) {x : Int} (e : x ∈ ns) : ∃ t, Value.int x t ∈ vs := by
  obtain ⟨i, hlt, rfl⟩ := List.mem_iff_getElem.mp e
  obtain ⟨t, ht⟩ := h.get i ns[i] (by simp [hlt])
  exact ⟨t, List.mem_of_getElem? ht⟩
theorem raisedS_sub {base G : Heap} {l : List Env} {e t : Addr} {cls : Value} {vs : List Value} {news news' : List (Addr × Obj)} {h : Heap} (R : RaisedS base G l e cls t vs news h) (sub : ∀ p ∈ news', p ∈ news) : RaisedS base G l e cls t vs news' h := by
  obtain ⟨⟨B, h1, h2, h3, h4⟩, h5⟩ := R
  exact ⟨⟨B, h1, h2, fun q hq => h3 q (sub q hq), h4⟩, h5⟩
theorem turn_end {h₀ : Heap} {L I : Addr} {o : Obj} {news : List (Addr × Obj)} {stored : List Str} {m₀ m' : Str → Option Value} {P : Prop} {s₁ : Shared} {Q : Flow → Shared → Prop} {h' : Heap} {tk : Nat}
    (F : Fr h₀ L h' m') (N : News h₀ L h' ((I, o) :: news)) (hm : ∀ z, stored.contains z = false → m' z = m₀ z) (hP : P) : TurnPost h₀ L I o news stored m₀ P s₁ Q .next { s₁ with heap := h', toks := tk } := ⟨h', tk, m', rfl, F, N, hm, hP⟩
theorem news_tl {h₀ h : Heap} {L : Addr} {news : List (Addr × Obj)} {p : Addr × Obj} (N : News h₀ L h (p :: news)) : News h₀ L h news := fun q hq => N q (.tail _ hq)
local macro_rules | `(tactic| walk_at "formatField int") => `(tactic| (k_here; (with_reducible show wpAny _ _ (formatField (Value.int _ _) _) _ _ _); (refine wpAny_formatField_int (fmt_ok (by omega) (by omega)) ?_); (try dsimp only)))
local macro_rules | `(tactic| walk_at "leaving ref") => `(tactic| (k_here; (refine' leave_raiseS ?k1 ?k0 ?k2 ?k3 ?_; (case k0 => assumption); (case k1 => assumption); (case k2 => assumption); (case k3 => k_asm); k_whole; intro h' t' R' RK' U'; (try dsimp only at R' RK' U' ⊢))))
local macro_rules | `(tactic| walk_at "exec For Name Name cons nil") => `(tactic| (k_here; (rename Fr _ _ _ _ => lF'); (with_unfolding_all refine' For_turns lF' ?_; k_whole)))
local macro_rules | `(tactic| walk_at "call builtin:len") => `(tactic| (k_here; (with_reducible show wpAny _ _ (call (Value.builtin "len") [Value.ref _]) _ _ _); k_dflt (refine PyProof.Rows.len_tuple (News.isTup (by k_asm) (by k_mem)) (by simp only [List.size_toArray]; omega) ?_)))
set_option maxRecDepth 100000 in
set_option maxHeartbeats 8000000 in
theorem heights_ok {w : World} {mg mb : Str → Option Value} {mean : ExcName → Option Value}
   {dp un : Nat} {gd : Option (List Code)} {cn : Str} {cs : Scope} {a : Addr} {ccd : Value} {cl : List (Str × Addr)} {outer : List Env} {A₀ : Around} {base h₀ : Heap} {L : Addr} {m : Str → Option Value} {news : List (Addr × Obj)} {s : Shared} {Q E : Value → Shared → Prop}
   {mh : Int} {tm : Tok} {tb : Addr} {n' : Nat} {hvs : List Value} {hs : List Int}
   (hi' : IntsAre hvs hs) (hlen : hs.length ≤ 8) (hm1 : -10 ^ 30 < mh) (hm2 : mh < 10 ^ 30) (hhb : ∀ x ∈ hs, -10 ^ 30 < x ∧ x < 10 ^ 30)
   (B : Below A₀ base outer h₀) (F : Fr h₀ L s.heap m) (X : (hd.heap_39 w.params).In h₀) (N : News h₀ L s.heap ((tb, tupO hvs.toArray n') :: news)) (T : Top hd.view_39 (looseW hd.view_39 []) mean mg mb h₀) (hk : cs.kind = .function) (hdp : dp + 1 < recursionLimit) (hu : un + 8 < cLine)
   (ret : (hs ≠ [] ∧ ∀ x ∈ hs, okH mh x) → ∀ h' tk', Fr h₀ L h' m → News h₀ L h' ((tb, tupO hvs.toArray n') :: news) → Q .none { s with heap := h', toks := tk' })
   (exc : ¬ (hs ≠ [] ∧ ∀ x ∈ hs, okH mh x) → ∀ e t vs G h' tk', Fr h₀ L G m → RaisedS base G (envX cn cs L a ccd cl :: outer) e (.ref 49) t vs ((tb, tupO hvs.toArray n') :: news) h' → G.UpToSlots h' → E (.ref e) { s with heap := h', toks := tk' }) :
   wpAny (model Challenge.rw_pf0283_01.row.prog w) (ktrTop dp un gd cn cs L a ccd cl outer) (call (.ref 93) [.int mh tm, .ref tb]) Q E s := by
  revert X; k_fill; intro X
  refine wpAny_call ?_
  k_dflt cell_enter
  have kLen := hi'.length
  k_steps
  · refine exc ?_ _ _ _ _ _ _ (by k_asm) (by k_asm) (by k_asm)
    simp only [List.size_toArray, kLen] at *
    rintro ⟨h1, _⟩
    exact h1 (List.length_eq_zero_iff.mp (by omega))
  rename Fr _ _ _ _ => lF'
  rename News _ _ _ _ => lN'
  with_unfolding_all refine iter_tupTurns (lo := tupO hvs.toArray n') (vs := hvs) (by rfl) lF' lN' (by k_mem) (by rfl) (by rfl) ?_
  intro I hI
  refine items_ind (fun i => ∀ x t, hvs[i]? = some (.int x t) → okH mh x) [Str.ofString "height"] hI (by k_mem) ?_ ?_
  · intro i v hv u h tk o hcls F1 N1
    obtain ⟨x9, t9, hx9, rfl⟩ := ints_mem hi' (List.mem_of_getElem? hv)
    obtain ⟨b9, c9⟩ := hhb x9 hx9
    k_steps
    · refine exc (fun h => ?_) _ _ _ _ _ _ (by k_asm) (raisedS_sub (by k_asm) (fun p hp => .tail _ hp)) (by k_asm)
      have h9 := h.2 x9 hx9
      unfold okH at h9; omega
    · refine exc (fun h => ?_) _ _ _ _ _ _ (by k_asm) (raisedS_sub (by k_asm) (fun p hp => .tail _ hp)) (by k_asm)
      have h9 := h.2 x9 hx9
      unfold okH at h9; omega
    · refine turn_end (by k_asm) (by k_asm) ?_ ?_
      · intro z hz
        have hz' := hz
        simp only [List.contains_cons, List.contains_nil, Bool.or_false, beq_eq_false_iff_ne] at hz'
        simp [hz']
      · rintro x t' e
        rw [hv] at e
        cases e
        exact ⟨by omega, by omega⟩
  · intro u h tk hok F1 N1
    k_steps
    refine ret ⟨?_, fun x hx => ?_⟩ _ _ (by k_asm) (by k_asm)
    · simp only [List.size_toArray, kLen] at *
      rintro rfl
      simp at *
    · obtain ⟨t', ht⟩ := mem_ints hi' hx
      obtain ⟨i, hlt, he⟩ := List.mem_iff_getElem.mp ht
      exact hok i hlt x t' (by rw [List.getElem?_eq_getElem hlt, he])
end Mine
namespace Mine
theorem fresh_C7 : True := by
  w_top off
  trivial
abbrev optL (H : Nat → Int) (kt : Nat → Tok) (v : Nat → Int) (t : Nat → Tok) (tb : Addr) : List DictEntry := [⟨H 0, .str (Str.ofString "check") (kt 0), .int (v 0) (t 0)⟩, ⟨H 1, .str (Str.ofString "log_block") (kt 1), .int (v 1) (t 1)⟩, ⟨H 17, .str (Str.ofString "sync_writes") (kt 17), .bool true⟩, ⟨H 18, .str (Str.ofString "create_missing") (kt 18), .bool true⟩, ⟨H 19, .str (Str.ofString "paranoid") (kt 19), .bool false⟩, ⟨H 2, .str (Str.ofString "write_buffer") (kt 2), .int (v 2) (t 2)⟩, ⟨H 3, .str (Str.ofString "max_height") (kt 3), .int (v 3) (t 3)⟩, ⟨H 20, .str (Str.ofString "heights") (kt 20), .ref tb⟩, ⟨H 4, .str (Str.ofString "block_size") (kt 4), .int (v 4) (t 4)⟩, ⟨H 5, .str (Str.ofString "restart_interval") (kt 5), .int (v 5) (t 5)⟩, ⟨H 6, .str (Str.ofString "filter_bits") (kt 6), .int (v 6) (t 6)⟩, ⟨H 7, .str (Str.ofString "filter_base_lg") (kt 7), .int (v 7) (t 7)⟩, ⟨H 8, .str (Str.ofString "max_file_size") (kt 8), .int (v 8) (t 8)⟩, ⟨H 9, .str (Str.ofString "num_levels") (kt 9), .int (v 9) (t 9)⟩, ⟨H 10, .str (Str.ofString "l0_trigger") (kt 10), .int (v 10) (t 10)⟩, ⟨H 11, .str (Str.ofString "l0_stop") (kt 11), .int (v 11) (t 11)⟩, ⟨H 12, .str (Str.ofString "base_bytes") (kt 12), .int (v 12) (t 12)⟩, ⟨H 13, .str (Str.ofString "level_factor") (kt 13), .int (v 13) (t 13)⟩, ⟨H 14, .str (Str.ofString "max_mem_level") (kt 14), .int (v 14) (t 14)⟩, ⟨H 15, .str (Str.ofString "grandparent_factor") (kt 15), .int (v 15) (t 15)⟩, ⟨H 16, .str (Str.ofString "expand_factor") (kt 16), .int (v 16) (t 16)⟩]
def heldOk (v : Nat → Int) : Nat → Prop
  | 0 => 8 ≤ v 1 ∧ v 1 ≤ 65542
  | 1 => 2 ≤ v 9 ∧ v 9 ≤ 12
  | 2 => 0 ≤ v 14 ∧ v 14 ≤ v 9 - 1
  | _ => 0 ≤ v 7 ∧ v 7 ≤ 31
theorem may_facts {v : Nat → Int} {hs : List Int} : May v hs ↔ (1 ≤ v 0 ∧ v 0 ≤ 2 ∧ 8 ≤ v 1 ∧ v 1 ≤ 65542 ∧ 1 ≤ v 2 ∧ 1 ≤ v 3 ∧ 1 ≤ v 4 ∧ 1 ≤ v 5 ∧ 0 ≤ v 6 ∧ 0 ≤ v 7 ∧ v 7 ≤ 31 ∧ 1 ≤ v 8 ∧ 2 ≤ v 9 ∧ v 9 ≤ 12 ∧ 1 ≤ v 10 ∧ 1 ≤ v 11 ∧ 1 ≤ v 12 ∧ 1 ≤ v 13 ∧ 0 ≤ v 14 ∧ 1 ≤ v 15 ∧ 1 ≤ v 16) ∧ v 14 < v 9 ∧ (hs ≠ [] ∧ ∀ x ∈ hs, okH (v 3) x) := by
  have key : (∀ p : Nat, p < 17 → okAt v p) ↔ (1 ≤ v 0 ∧ v 0 ≤ 2 ∧ 8 ≤ v 1 ∧ v 1 ≤ 65542 ∧ 1 ≤ v 2 ∧ 1 ≤ v 3 ∧ 1 ≤ v 4 ∧ 1 ≤ v 5 ∧ 0 ≤ v 6 ∧ 0 ≤ v 7 ∧ v 7 ≤ 31 ∧ 1 ≤ v 8 ∧ 2 ≤ v 9 ∧ v 9 ≤ 12 ∧ 1 ≤ v 10 ∧ 1 ≤ v 11 ∧ 1 ≤ v 12 ∧ 1 ≤ v 13 ∧ 0 ≤ v 14 ∧ 1 ≤ v 15 ∧ 1 ≤ v 16) := by
    constructor
    · intro h
      have l (p : Nat) (hp : p < 17) : lo p ≤ v p := (h p hp).1
      have u (p : Nat) (hp : p < 17) (b : Int) (e : hi p = some b) : v p ≤ b := (h p hp).2 b e
      exact ⟨l 0 (by decide), u 0 (by decide) 2 rfl, l 1 (by decide), u 1 (by decide) 65542 rfl, l 2 (by decide), l 3 (by decide), l 4 (by decide), l 5 (by decide), l 6 (by decide), l 7 (by decide), u 7 (by decide) 31 rfl, l 8 (by decide), l 9 (by decide), u 9 (by decide) 12 rfl, l 10 (by decide), l 11 (by decide), l 12 (by decide), l 13 (by decide), l 14 (by decide), l 15 (by decide), l 16 (by decide)⟩
    · intro h p hp
      have := lt17 p hp
      obtain ⟨h0, h0', h1, h1', h2, h3, h4, h5, h6, h7, h7', h8, h9, h9', h10, h11, h12, h13, h14, h15, h16⟩ := h
      rcases this with rfl | rfl | rfl | rfl | rfl | rfl | rfl | rfl | rfl | rfl | rfl | rfl | rfl | rfl | rfl | rfl | rfl <;> refine ⟨by assumption, fun b e => ?_⟩ <;> cases e <;> assumption
  unfold May
  rw [key]
def sizesOk (v : Nat → Int) : Nat → Prop
  | 0 => 1 ≤ v 2
  | 1 => 1 ≤ v 3
  | 2 => 1 ≤ v 4
  | 3 => 1 ≤ v 5
  | 4 => 1 ≤ v 8
  | 5 => 1 ≤ v 10
  | 6 => 1 ≤ v 11
  | 7 => 1 ≤ v 12
  | 8 => 1 ≤ v 13
  | 9 => 1 ≤ v 15
  | _ => 1 ≤ v 16
theorem may_held {v : Nat → Int} {hs : List Int} (h : May v hs) (i : Nat) : heldOk v i := by
  have h' := may_facts.mp h
  unfold heldOk
  split <;> omega
theorem may_sizes {v : Nat → Int} {hs : List Int} (h : May v hs) (i : Nat) : sizesOk v i := by
  have h' := (may_facts.mp h).1
  unfold sizesOk
  split <;> omega
theorem news_dup {h₀ h : Heap} {L : Addr} {news : List (Addr × Obj)} {p : Addr × Obj} (N : News h₀ L h news) (hp : p ∈ news) : News h₀ L h (p :: news) := fun q hq => (List.mem_cons.mp hq).elim (fun e => e ▸ N p hp) (N q)
theorem news_sub {h₀ h : Heap} {L : Addr} {news news' : List (Addr × Obj)} (N : News h₀ L h news) (sub : ∀ p ∈ news', p ∈ news) : News h₀ L h news' := fun p hp => N p (sub p hp)
theorem bool_cut {M : Model} {A : Around} {E : Value → Shared → Prop} {s : Shared} {h₀ : Heap} {L : Addr} {m : Str → Option Value} {news : List (Addr × Obj)} {t : Sem Bool} {Q : Bool → Shared → Prop} (C : Prop) (_F : Fr h₀ L s.heap m) (_N : News h₀ L s.heap news)
    (h1 : wpAny M A t (fun b s' => ∃ h' tk', s' = { s with heap := h', toks := tk' } ∧ Fr h₀ L h' m ∧ News h₀ L h' news ∧ (b = true ↔ C)) E s)
    (h2 : ∀ h' tk', Fr h₀ L h' m → News h₀ L h' news → C → Q true { s with heap := h', toks := tk' })
    (h3 : ∀ h' tk', Fr h₀ L h' m → News h₀ L h' news → ¬ C → Q false { s with heap := h', toks := tk' }) : wpAny M A t Q E s :=
  wpAny_mono h1 (fun b s' ⟨h', tk', e, F, N, hb⟩ => by
    subst e
    cases b with
    | true => exact h2 h' tk' F N (hb.mp rfl)
    | false => exact h3 h' tk' F N fun c => by cases hb.mpr c) fun _ _ e => e
local macro_rules | `(tactic| walk_at "execs cons") => `(tactic| (k_here; (with_reducible refine execs_one ?_)))
theorem lt4 : ∀ i : Nat, i < 4 → (i = 0 ∨ i = 1 ∨ i = 2 ∨ i = 3) := by decide
theorem lt11 : ∀ i : Nat, i < 11 → (i = 0 ∨ i = 1 ∨ i = 2 ∨ i = 3 ∨ i = 4 ∨ i = 5 ∨ i = 6 ∨ i = 7 ∨ i = 8 ∨ i = 9 ∨ i = 10) := by decide
theorem sm {n : Int} (h : -10 ^ 30 < n ∧ n < 10 ^ 30) : -10 ^ 31 < n ∧ n < 10 ^ 31 := by omega
theorem sm1 {n : Int} (h : -10 ^ 30 < n ∧ n < 10 ^ 30) : -10 ^ 31 < n - 1 ∧ n - 1 < 10 ^ 31 := by omega
theorem sm3 {a b c : Int} (h : -10 ^ 31 < a ∧ a < 10 ^ 31) (hb : -10 ^ 31 < b ∧ b < 10 ^ 31) (hc : -10 ^ 31 < c ∧ c < 10 ^ 31) : -10 ^ 31 < a ∧ a < 10 ^ 31 ∧ -10 ^ 31 < b ∧ b < 10 ^ 31 ∧ -10 ^ 31 < c ∧ c < 10 ^ 31 := ⟨h.1, h.2, hb.1, hb.2, hc⟩
theorem v0_no {v : Nat → Int} {hs : List Int} (h : May v hs) (hc : v 0 ≠ 1 ∧ v 0 ≠ 2) : False := by
  have a := (may_facts.mp h).1.1
  have b := (may_facts.mp h).1.2.1
  omega
theorem v6_no {v : Nat → Int} {hs : List Int} (h : May v hs) (hc : v 6 < 0) : False := by
  have a := ((may_facts.mp h).1).2.2.2.2.2.2.2.2.1
  omega
theorem v0_yes {n : Int} (hc : ¬ (n ≠ 1 ∧ n ≠ 2)) : 1 ≤ n ∧ n ≤ 2 := by omega
theorem le1 {a b : Int} (h : a ≤ b - 1) : a < b := by omega
theorem no_le {a b : Int} (h : a ≤ b) (h' : b < a) : False := by omega
local macro_rules | `(tactic| walk_at "formatField int") => `(tactic| (k_here; (with_reducible show wpAny _ _ (formatField (Value.int _ _) _) _ _ _); (refine wpAny_formatField_int (fmt_ok (by assumption) (by assumption)) ?_); (try dsimp only)))
theorem txt_len {n : Int} (h1 : -10 ^ 31 < n) (h2 : n < 10 ^ 31) : (Str.ofString (toString n)).length ≤ 32 := by
  rw [PySem.ofString_length]
  exact int_text_length_le10 (k := 31) (by decide) (by omega)
local macro_rules | `(tactic| walk_at "And") => `(tactic| ((with_reducible show PySem.Str.length _ ≤ _ ∧ _); (refine And.intro ?sz9 ?_); (case sz9 => (simp only [PySem.Str.length_append]; rw [PySem.sizeLine_eq]; omega))))
local macro_rules | `(tactic| walk_at "leaving ref") => `(tactic| (k_here; (refine' leave_raiseS ?k1 ?k0 ?k2 ?k3 ?_; (case k0 => assumption); (case k1 => assumption); (case k2 => assumption); (case k3 => k_asm); k_whole; intro h' t' R' RK' U'; (try dsimp only at R' RK' U' ⊢))))
local macro_rules | `(tactic| walk_at "leaving ref") => `(tactic| (k_here; (refine' leave_onS ?k1 ?k2 ?k3 ?k4 ?_; (case k3 => assumption); (case k1 => assumption); (case k4 => assumption); (case k2 => assumption); k_whole; intro h' R' RK' U'; (try dsimp only at R' RK' U' ⊢))))
local macro_rules | `(tactic| walk_at "call ref") => `(tactic| (k_here; (with_reducible show wpAny _ _ (call (Value.ref 93) _) _ _ _); k_dflt (refine' heights_ok (by assumption) (by assumption) (by assumption) (by assumption) (by assumption) ?k1 ?k2 ?k3 ?k4 ?k5 ?kK ?kd ?ku (fun r9 h9 tk9 F9 N9 => ?_) (fun r9 e9 t9 vs9 G9 h9 tk9 F9 R9 U9 => ?_); (case k1 => k_asm); (case k2 => k_asm); (case k3 => k_asm); (case k4 => exact news_dup (by k_asm) (by k_mem)); (case k5 => k_asm); (case kK => first | exact rfl | assumption); (case kd => ktr_room); (case ku => ktr_units)); (all_goals (try dsimp only)); (all_goals (try k_fold))))
local macro_rules | `(tactic| walk_at "exec For Tuple Name cons nil") => `(tactic| (k_here; (rename Fr _ _ _ _ => lF'); (with_unfolding_all refine' For_turns lF' ?_; k_whole)))
set_option maxRecDepth 100000 in
set_option maxHeartbeats 8000000 in
theorem check_ok {w : World} {mg mb : Str → Option Value} {mean : ExcName → Option Value}
   {dp un : Nat} {gd : Option (List Code)} {cn : Str} {cs : Scope} {a : Addr} {ccd : Value} {cl : List (Str × Addr)} {outer : List Env} {A₀ : Around} {base h₀ : Heap} {L : Addr} {m : Str → Option Value} {news : List (Addr × Obj)} {s : Shared} {Q E : Value → Shared → Prop}
   {H : Nat → Int} {kt : Nat → Tok} {v : Nat → Int} {t : Nat → Tok} {x dx tb : Addr} {n' : Nat} {hvs : List Value} {hs : List Int}
   (hi' : IntsAre hvs hs) (hlen : hs.length ≤ 8) (hv : ∀ p, -10 ^ 30 < v p ∧ v p < 10 ^ 30) (hhb : ∀ x ∈ hs, -10 ^ 30 < x ∧ x < 10 ^ 30)
   (B : Below A₀ base outer h₀) (F : Fr h₀ L s.heap m) (X : (hd.heap_39 w.params).In h₀) (N : News h₀ L s.heap ((x, instObj 82 dx) :: (dx, dictOf (optL H kt v t tb) 21) :: (tb, tupO hvs.toArray n') :: news)) (T : Top hd.view_39 (looseW hd.view_39 []) mean mg mb h₀) (hk : cs.kind = .function) (hdp : dp + 2 < recursionLimit) (hu : un + 16 < cLine)
   (ret : May v hs → ∀ h' tk', Fr h₀ L h' m → News h₀ L h' ((x, instObj 82 dx) :: (dx, dictOf (optL H kt v t tb) 21) :: (tb, tupO hvs.toArray n') :: news) → Q .none { s with heap := h', toks := tk' })
   (exc : ¬ May v hs → ∀ e t' vs G h' tk', Fr h₀ L G m → RaisedS base G (envX cn cs L a ccd cl :: outer) e (.ref 49) t' vs ((x, instObj 82 dx) :: (dx, dictOf (optL H kt v t tb) 21) :: (tb, tupO hvs.toArray n') :: news) h' → G.UpToSlots h' → E (.ref e) { s with heap := h', toks := tk' }) :
   wpAny (model Challenge.rw_pf0283_01.row.prog w) (ktrTop dp un gd cn cs L a ccd cl outer) (call (.ref 72) [.ref x]) Q E s := by
  revert X; k_fill; intro X
  (have hv0 := (sm (hv 0)).1); (have hv0' := (sm (hv 0)).2); (have hv6 := (sm (hv 6)).1); (have hv6' := (sm (hv 6)).2); (have hv3 := (hv 3).1); (have hv3' := (hv 3).2)
  refine wpAny_call ?_
  k_dflt cell_enter
  iterate 3 (first | walk1 | (dsimp only; walk1))
  refine bool_cut (v 0 ≠ 1 ∧ v 0 ≠ 2) (by k_asm) (by k_asm) ?_ ?_ ?_
  · k_steps
    all_goals first | k_asm | exact iff_of_true rfl (by omega) | exact iff_of_false (by decide) (by omega)
  · intro h9 tk9 F9 N9 hc
    k_steps
    exact exc (fun h => v0_no h hc) _ _ _ _ _ _ (by k_asm) (by k_asm) (by k_asm)
  · intro h9 tk9 F9 N9 hc
    k_steps
    rename Fr _ _ _ _ => lF'
    rename News _ _ _ _ => lN'
    with_unfolding_all refine iter_listTurns (lo := _) (vs := _) (by rfl) lF' lN' (by k_mem) (by rfl) (by rfl) ?_
    intro I hI
    refine items_ind (heldOk v) [Str.ofString "name", Str.ofString "value", Str.ofString "low", Str.ofString "high"] hI (by k_mem) ?_ ?_
    · intro i u0 hu0 u h tk o hcls F1 N1
      have rows : ∃ d nm tn a1 ta b1 tb' c1 tc, u0 = .ref d ∧ IsTup h d #[.str nm tn, .int a1 ta, .int b1 tb', .int c1 tc] ∧ nm.length ≤ 20 ∧ (-10 ^ 31 < a1 ∧ a1 < 10 ^ 31 ∧ -10 ^ 31 < b1 ∧ b1 < 10 ^ 31 ∧ -10 ^ 31 < c1 ∧ c1 < 10 ^ 31) ∧ (heldOk v i ↔ b1 ≤ a1 ∧ a1 ≤ c1) := by
        have hlt : i < 4 := (List.getElem?_eq_some_iff.mp hu0).1
        have hi4 := lt4 i hlt
        rcases hi4 with rfl | rfl | rfl | rfl <;> cases hu0 <;> (refine' ⟨_, _, _, _, _, _, _, _, _, rfl, News.isTup N1 (by k_mem), ?g1, ?g2, Iff.rfl⟩; (case g1 => decide); (case g2 => first | exact sm3 (sm (hv _)) (by decide +kernel) (by decide +kernel) | exact sm3 (sm (hv _)) (by decide +kernel) (sm1 (hv _))))
      obtain ⟨d, nm, tn, a1, ta, b1, tb', c1, tc, rfl, hT, hnm, hbd, hok⟩ := rows
      obtain ⟨z1, z2, z3, z4, z5, z6⟩ := hbd
      k_steps
      · refine exc (fun h => ?_) _ _ _ _ _ _ (by k_asm) (raisedS_sub (by k_asm) (by intro p hp; repeat' (first | exact hp | apply List.Mem.tail))) (by k_asm)
        have h9 := hok.mp (may_held h i)
        first | exact no_le h9.1 (by assumption) | exact no_le h9.2 (by assumption)
      · refine exc (fun h => ?_) _ _ _ _ _ _ (by k_asm) (raisedS_sub (by k_asm) (by intro p hp; repeat' (first | exact hp | apply List.Mem.tail))) (by k_asm)
        have h9 := hok.mp (may_held h i)
        first | exact no_le h9.1 (by assumption) | exact no_le h9.2 (by assumption)
      · refine turn_end (by k_asm) (by k_asm) ?_ (hok.mpr (by omega))
        intro z hz
        have hz' := hz
        simp only [List.contains_cons, List.contains_nil, Bool.or_false, Bool.or_eq_false_iff, beq_eq_false_iff_ne] at hz'
        simp [hz']
    · intro u h tk hok F1 N1
      replace N1 := news_sub N1 (fun p (hp : p ∈ ((x, instObj 82 dx) :: (dx, dictOf (optL H kt v t tb) 21) :: (tb, tupO hvs.toArray n') :: news)) => by repeat' (first | exact hp | apply List.Mem.tail))
      have ho0 := hok 0 (Nat.le_of_ble_eq_true rfl); have ho1 := hok 1 (Nat.le_of_ble_eq_true rfl); have ho2 := hok 2 (Nat.le_of_ble_eq_true rfl); have ho3 := hok 3 (Nat.le_of_ble_eq_true rfl)
      clear hok
      k_steps
      rename Fr _ _ _ _ => lF'
      rename News _ _ _ _ => lN'
      with_unfolding_all refine iter_listTurns (lo := _) (vs := _) (by rfl) lF' lN' (by k_mem) (by rfl) (by rfl) ?_
      intro I hI
      refine items_ind (sizesOk v) [Str.ofString "name", Str.ofString "value"] hI (by k_mem) ?_ ?_
      · intro i u0 hu0 u h tk o hcls F1 N1
        have rows : ∃ d nm tn a1 ta, u0 = .ref d ∧ IsTup h d #[.str nm tn, .int a1 ta] ∧ nm.length ≤ 20 ∧ (-10 ^ 31 < a1 ∧ a1 < 10 ^ 31) ∧ (sizesOk v i ↔ 1 ≤ a1) := by
          have hlt : i < 11 := (List.getElem?_eq_some_iff.mp hu0).1
          have hi4 := lt11 i hlt
          rcases hi4 with rfl | rfl | rfl | rfl | rfl | rfl | rfl | rfl | rfl | rfl | rfl <;> cases hu0 <;> (refine' ⟨_, _, _, _, _, rfl, News.isTup N1 (by k_mem), ?g1, ?g2, Iff.rfl⟩; (case g1 => decide); (case g2 => exact sm (hv _)))
        obtain ⟨d, nm, tn, a1, ta, rfl, hT, hnm, hbd, hok⟩ := rows
        obtain ⟨z1, z2⟩ := hbd
        have l0 : Str.empty.length = 0 := rfl
        have l1 : (Str.ofString " is ").length = 4 := by decide +kernel
        have l2 : (Str.ofString ", below 1").length = 9 := by decide +kernel
        have l3 := txt_len z1 z2
        k_steps
        · refine exc (fun h => ?_) _ _ _ _ _ _ (by k_asm) (raisedS_sub (by k_asm) (by intro p hp; repeat' (first | exact hp | apply List.Mem.tail))) (by k_asm)
          exact no_le (hok.mp (may_sizes h i)) (by assumption)
        · refine turn_end (by k_asm) (by k_asm) ?_ (hok.mpr (by omega))
          intro z hz
          have hz' := hz
          simp only [List.contains_cons, List.contains_nil, Bool.or_false, Bool.or_eq_false_iff, beq_eq_false_iff_ne] at hz'
          simp [hz']
      · intro u h tk hok F1 N1
        replace N1 := news_sub N1 (fun p (hp : p ∈ ((x, instObj 82 dx) :: (dx, dictOf (optL H kt v t tb) 21) :: (tb, tupO hvs.toArray n') :: news)) => by repeat' (first | exact hp | apply List.Mem.tail))
        have hs0 := hok 0 (Nat.le_of_ble_eq_true rfl); have hs1 := hok 1 (Nat.le_of_ble_eq_true rfl); have hs2 := hok 2 (Nat.le_of_ble_eq_true rfl); have hs3 := hok 3 (Nat.le_of_ble_eq_true rfl); have hs4 := hok 4 (Nat.le_of_ble_eq_true rfl); have hs5 := hok 5 (Nat.le_of_ble_eq_true rfl)
        have hs6 := hok 6 (Nat.le_of_ble_eq_true rfl); have hs7 := hok 7 (Nat.le_of_ble_eq_true rfl); have hs8 := hok 8 (Nat.le_of_ble_eq_true rfl); have hs9 := hok 9 (Nat.le_of_ble_eq_true rfl); have hs10 := hok 10 (Nat.le_of_ble_eq_true rfl)
        clear hok
        k_steps
        · refine exc (fun h => ?_) _ _ _ _ _ _ (by k_asm) (raisedS_sub (by k_asm) (by intro p hp; repeat' (first | exact hp | apply List.Mem.tail))) (by k_asm)
          exact v6_no h (by assumption)
        · refine ret (may_facts.mpr ⟨⟨(v0_yes hc).1, (v0_yes hc).2, ho0.1, ho0.2, hs0, hs1, hs2, hs3, ?_, ho3.1, ho3.2, hs4, ho1.1, ho1.2, hs5, hs6, hs7, hs8, ho2.1, hs9, hs10⟩, le1 ho2.2, by assumption⟩) _ _ (by k_asm) (news_sub (by k_asm) (by intro p hp; repeat' (first | exact hp | apply List.Mem.tail)))
          exact Int.not_lt.mp (by assumption)
        · refine exc (fun h => ?_) _ _ _ _ _ _ (by k_asm) (raisedS_sub (by k_asm) (by intro p hp; repeat' (first | exact hp | apply List.Mem.tail))) (by k_asm)
          exact (by assumption : ¬ _) (may_facts.mp h).2.2
end Mine
namespace Mine
theorem fresh_C8 : True := by
  w_top off
  trivial
open PySem.Calls PySem.Spec
def rowD (v : Nat → Int) (hs : List Int) : PyData := .list [.int (v 0), .int (v 1), .int (v 2), .int (v 3), .int (v 4), .int (v 5), .int (v 6), .int (v 7), .int (v 8), .int (v 9), .int (v 10), .int (v 11), .int (v 12), .int (v 13), .int (v 14), .int (v 15), .int (v 16), .bool true, .bool true, .bool false, .tuple (hs.map PyData.int)]
theorem reads_ints {h : Heap} {vs : List Value} {ns : List Int} (hi : IntsAre vs ns) : ReadsAll h vs (ns.map PyData.int) [] := by
  induction hi with
  | nil => exact ReadsAll.nil
  | cons n t r ih => exact ReadsAll.cons (as := []) (Reads.int _ _) ih
theorem reads_row {h₀ h : Heap} {L l tb : Addr} {news : List (Addr × Obj)} {v : Nat → Int} {t : Nat → Tok} {n k : Nat} {hvs : List Value} {hs : List Int} (N : News h₀ L h news) (hi : IntsAre hvs hs)
    (hm : (l, W.listOf (wantL v t tb).toArray n) ∈ news) (ht : (tb, tupO hvs.toArray k) ∈ news) : ∃ as, Reads h (.ref l) (rowD v hs) as := by
  have r : Reads h (.ref tb) (.tuple (hs.map PyData.int)) [] := reads_tuple_at (News.get N ht) rfl rfl (reads_ints hi)
  exact ⟨_, reads_list_at (News.get N hm) rfl rfl (ReadsAll.cons (Reads.int _ _) (ReadsAll.cons (Reads.int _ _) (ReadsAll.cons (Reads.int _ _) (ReadsAll.cons (Reads.int _ _) (ReadsAll.cons (Reads.int _ _) (ReadsAll.cons (Reads.int _ _) (ReadsAll.cons (Reads.int _ _) (ReadsAll.cons (Reads.int _ _) (ReadsAll.cons (Reads.int _ _) (ReadsAll.cons (Reads.int _ _) (ReadsAll.cons (Reads.int _ _) (ReadsAll.cons (Reads.int _ _) (ReadsAll.cons (Reads.int _ _) (ReadsAll.cons (Reads.int _ _) (ReadsAll.cons (Reads.int _ _) (ReadsAll.cons (Reads.int _ _) (ReadsAll.cons (Reads.int _ _) (ReadsAll.cons (Reads.bool _) (ReadsAll.cons (Reads.bool _) (ReadsAll.cons (Reads.bool _) (ReadsAll.cons r ReadsAll.nil)))))))))))))))))))))⟩
theorem eqvAll_ints : ∀ ns : List Int, PyData.eqvAll (ns.map PyData.int) (ns.map PyData.int) = true := fun ns => by rw [ked_eqvAll]; simp
theorem rowD_eqv (v : Nat → Int) (hs : List Int) : PyData.eqv (rowD v hs) (rowD v hs) = true := by
  unfold rowD
  simp [PyData.eqv, PyData.eqvAll, eqvAll_ints]
theorem rowD_shaped (v : Nat → Int) (hs : List Int) : SeqAt.shaped (rowD v hs) = true := by
  unfold rowD
  simp [SeqAt.shaped, PyData.canLay0, PyData.canLayAll0, PyData.depth, PyData.depthAll, ke_canLayAll0, ke_depthAll]
theorem row_eq {prog : Program} {w : World} {A : Around} {E : Value → Shared → Prop} {s : Shared} {h₀ : Heap} {L l l' tb tb' : Addr} {news : List (Addr × Obj)} {v : Nat → Int} {t t' : Nat → Tok} {n n' k k' : Nat} {hvs hvs' : List Value} {hs : List Int} {Q : Value → Shared → Prop}
    (N : News h₀ L s.heap news) (hi : IntsAre hvs hs) (hi' : IntsAre hvs' hs) (hm : (l, W.listOf (wantL v t tb).toArray n) ∈ news) (ht : (tb, tupO hvs.toArray k) ∈ news) (hm' : (l', W.listOf (wantL v t' tb').toArray n') ∈ news) (ht' : (tb', tupO hvs'.toArray k') ∈ news)
    (hu : A.units + 64 < cLine) (h : Q (.bool true) s) : wpAny (model prog w) A (compareOp .Eq (.ref l) (.ref l')) Q E s := by
  obtain ⟨as, r⟩ := reads_row N hi hm ht
  obtain ⟨as', r'⟩ := reads_row N hi' hm' ht'
  exact eq_dataH r r' (rowD_shaped v hs) (rowD_shaped v hs) hu (by rw [rowD_eqv]; exact h)
section
variable {prog : Program} {w : World} {A₀ A : Around} {s : Shared} {base h₀ : Heap} {L : Addr} {m : Str → Option Value} {news : List (Addr × Obj)} {K : Frag} {p : Program} {loose : List Str} {mean : ExcName → Option Value} {mg mb : Str → Option Value}
    {R : Result → Shared → Prop} {name qual : Str} {params : Arguments} {body : List Stmt} {scope : Scope} {dV kV doc pm cdv ct oc : Value} {an od : Option Addr} {osl : Array (Option Value)} {f : Addr} {args : Args} {binds : List (Str × Value)}
theorem code_defT {env : Env} (B : Below A₀ base [] h₀) (F : Fr h₀ L s.heap m) (X₀ : K.In h₀) (N : News h₀ L s.heap news) (T : Top p loose mean mg mb h₀) (hA : A.frames = some [env]) (hf : env.frame = some L) (hke : env.scope.kind = .function)
    (ho : K.lookup f = some ⟨oc, od, .func (fnOf name qual params body scope dV kV doc pm an cdv ct), osl⟩) (hcd : codeIn K cdv qual = true) (hroom : A.depth < recursionLimit)
    (hbind : BindsTo s (fnOf name qual params body scope dV kV doc pm an cdv ct) args binds) (hloc : ∀ y ∈ binds, scope.names.lookup y.1 = some .local)
    (h : ∀ g L' h₁, Fr h₀ L g m → Fr g L' h₁ (fun y => binds.reverse.lookup y) → News g L' h₁ news → Below A base [env] g → K.In g → Top p loose mean mg mb g → KtsDicts ([env].filterMap (·.frame)) g →
      wpAny (model prog w) (A.deeper (envOf qual scope L' f cdv)) (execs body (envOf qual scope L' f cdv))
        (fun fl s' => LeaveS0 ([env].filterMap (·.frame)) h₀ L m g R (match fl with | .ret v => v | _ => .none) s')
        (fun e s' => wpAny (model prog w) (A.deeper (envOf qual scope L' f cdv)) (leaving (envOf qual scope L' f cdv) e) (fun _ s'' => R (.error e) s'') (fun e' s'' => R (.error e') s'') s')
        { s with heap := h₁, toks := s.toks + binds.length })
    (hco : scope.isCoroutine = false) (hgen : scope.isGenerator = false) (hk : scope.kind = .function)
    (hcell : ∀ x ∈ scope.names, x.2 ≠ .cell) : codeAny (model prog w) A (.call (.ref f) args) R s := by
  have X := X₀.keeps F.keep
  refine codeAny_call_def (fd := fnOf name qual params body scope dV kV doc pm an cdv ct) (body := body) (binds := binds) hroom (X _ _ ho) rfl (T.nolimit.keeps F.keep) (codeRec_of X hcd) rfl hbind hcell hloc (fun h₁ hns hk₁ => ?_) hco hgen hk
  obtain ⟨FG, BG, st, _⟩ := groundX (R := R) B F N hA hf hke
  obtain ⟨oL, es, ep, hLg, hLd, hLk, hLf⟩ := FG.ns
  have hmem : ∀ b, b ∈ [env].filterMap (·.frame) ↔ b = L := fun b => by simp [hf, eq_comm]
  refine wpAny_mono (h _ s.heap.objs.size h₁ FG ⟨hns, fun b o e => hk₁ b o (of_hideAll _ e), Nat.le_of_eq (hideAll_size _ _)⟩
    (fun p hp => ⟨hk₁ _ _ (N p hp).1, Nat.ne_of_lt (Heap.lt_size (N p hp).1), hideAll_none _ (List.mem_map_of_mem hp)⟩) BG (X₀.keeps st) (T.keeps st) (fun b hb => by
      rw [(hmem b).mp hb]
      exact ⟨oL, es, ep, hLg, hLd⟩)) (fun fl s' hl => ?_) fun _ _ y => y
  obtain ⟨g', L', m', news', T', F', N', k⟩ := hl
  have nL₀ : h₀.get? L = none := kts_self F
  obtain ⟨sl, hs⟩ := T'.up hLg
  refine k ⟨⟨_, es, ep, F'.keep _ _ hs, hLd, hLk, hLf⟩, fun b o e => F'.keep b o (T'.other b o (st b o e) (fun q => by
    rw [(hmem b).mp q, nL₀] at e
    cases e)), F.above⟩ fun p hp => ⟨(N' p hp).1, fun q => ?_, ?_⟩
  · have := (N' p hp).2.2; rw [q, hs] at this; cases this
  · cases q : h₀.get? p.1 with
    | none => rfl
    | some o =>
      obtain ⟨sl', hs'⟩ := T'.up (st _ _ q)
      have := (N' p hp).2.2
      rw [hs'] at this
      cases this
end
set_option maxRecDepth 100000 in
set_option maxHeartbeats 8000000 in
theorem row_ok {w : World} {mg mb : Str → Option Value} {mean : ExcName → Option Value}
   {dp un : Nat} {gd : Option (List Code)} {cn : Str} {cs : Scope} {a : Addr} {ccd : Value} {cl : List (Str × Addr)} {outer : List Env} {A₀ : Around} {base h₀ : Heap} {L : Addr} {m : Str → Option Value} {news : List (Addr × Obj)} {s : Shared} {Q E : Value → Shared → Prop}
   {H : Nat → Int} {kt : Nat → Tok} {v : Nat → Int} {t : Nat → Tok} {x dx tb : Addr}
   (B : Below A₀ base outer h₀) (F : Fr h₀ L s.heap m) (X : (hd.heap_39 w.params).In h₀) (N : News h₀ L s.heap ((x, instObj 82 dx) :: (dx, dictOf (optL H kt v t tb) 21) :: news)) (T : Top hd.view_39 (looseW hd.view_39 []) mean mg mb h₀) (hk : cs.kind = .function) (hdp : dp + 1 < recursionLimit) (hu : un + 8 < cLine)
   (ret : ∀ r n h' tk', Fr h₀ L h' m → News h₀ L h' ((r, W.listOf (wantL v t tb).toArray n) :: ((x, instObj 82 dx) :: (dx, dictOf (optL H kt v t tb) 21) :: news)) → Q (.ref r) { s with heap := h', toks := tk' }) :
   wpAny (model Challenge.rw_pf0283_01.row.prog w) (ktrTop dp un gd cn cs L a ccd cl outer) (call (.ref 121) [.ref x]) Q E s := by
  revert X; k_fill; intro X
  refine wpAny_call ?_
  k_dflt cell_enter
  k_steps
  refine ret _ _ _ _ (by k_asm) (news_sub (by k_asm) (by intro p hp; (rcases List.mem_cons.mp hp with rfl | hp); exact List.Mem.head _; (repeat' (first | exact hp | apply List.Mem.tail))))
end Mine
namespace Mine
theorem fresh_C9 : True := by
  w_top off
  trivial
theorem news_dup2 {h₀ h : Heap} {L : Addr} {news : List (Addr × Obj)} {p q : Addr × Obj} (N : News h₀ L h news) (hp : p ∈ news) (hq : q ∈ news) : News h₀ L h (p :: q :: news) := fun r hr => by
  rcases List.mem_cons.mp hr with rfl | hr
  · exact N _ hp
  · rcases List.mem_cons.mp hr with rfl | hr
    · exact N _ hq
    · exact N _ hr
theorem news_dup3 {h₀ h : Heap} {L : Addr} {news : List (Addr × Obj)} {p q r : Addr × Obj} (N : News h₀ L h news) (hp : p ∈ news) (hq : q ∈ news) (hr : r ∈ news) : News h₀ L h (p :: q :: r :: news) := fun z hz => by
  rcases List.mem_cons.mp hz with rfl | hz
  · exact N _ hp
  · exact news_dup2 N hq hr z hz
theorem news_drop2 {h₀ h : Heap} {L : Addr} {news : List (Addr × Obj)} {p q : Addr × Obj} (N : News h₀ L h (p :: q :: news)) : News h₀ L h news := fun r hr => N r (.tail _ (.tail _ hr))
theorem news_drop3 {h₀ h : Heap} {L : Addr} {news : List (Addr × Obj)} {p q r : Addr × Obj} (N : News h₀ L h (p :: q :: r :: news)) : News h₀ L h news := fun z hz => N z (.tail _ (.tail _ (.tail _ hz)))
theorem news_row {h₀ h : Heap} {L : Addr} {news : List (Addr × Obj)} {z p q : Addr × Obj} (N : News h₀ L h (z :: p :: q :: news)) : News h₀ L h (z :: news) := fun r hr => N r ((List.mem_cons.mp hr).elim (fun e => e ▸ .head _) fun hr => .tail _ (.tail _ (.tail _ hr)))
theorem raisedS_drop3 {base G : Heap} {l : List Env} {e t : Addr} {cls : Value} {vs : List Value} {news : List (Addr × Obj)} {p q r : Addr × Obj} {h : Heap} (R : RaisedS base G l e cls t vs (p :: q :: r :: news) h) : RaisedS base G l e cls t vs news h := raisedS_sub R fun _ hz => .tail _ (.tail _ (.tail _ hz))
local macro_rules | `(tactic| walk_at "call ref") => `(tactic| (k_here; (with_reducible show wpAny _ _ (call (Value.ref 72) _) _ _ _); k_dflt ((refine' cc (check_ok ?z1 ?z2 ?z3 ?z4) ?k (fun r9 h9 tk9 F9 N9 => ?_) (fun r9 e9 t9 vs9 G9 h9 tk9 F9 R9 U9 => ?_)); (case k => (walk_at "k3"; exact news_dup3 (by k_asm) (by k_mem) (by k_mem) (by k_mem); walk_at "ends")); (case z1 => assumption); (case z2 => assumption); (case z3 => assumption); (case z4 => assumption)); (all_goals (try (replace N9 := news_drop3 N9))); (all_goals (try (replace R9 := raisedS_drop3 R9))); (all_goals (try dsimp only)); (all_goals (try k_fold))))
local macro_rules | `(tactic| walk_at "call ref") => `(tactic| (k_here; (with_reducible show wpAny _ _ (call (Value.ref 133) _) _ _ _); k_dflt (refine' cc (may_ok ?z1 ?z2) ?k (fun b9 h9 tk9 i9 F9 N9 => ?_); (case k => (walk_at "k3"; exact news_dup2 (by k_asm) (by k_mem) (by k_mem); walk_at "ends")); (case z1 => assumption); (case z2 => assumption)); (replace N9 := news_drop2 N9); walk_at "tidy"))
local macro_rules | `(tactic| walk_at "call ref") => `(tactic| (k_here; (with_reducible show wpAny _ _ (call (Value.ref 121) _) _ _ _); k_dflt (refine' cc row_ok ?k (fun r9 n9 h9 tk9 F9 N9 => ?_); (case k => (walk_at "k3"; exact news_dup2 (by k_asm) (by k_mem) (by k_mem); walk_at "ends"))); (replace N9 := news_row N9); walk_at "tidy"))
local macro_rules | `(tactic| walk_at "compareOp Eq ref ref") => `(tactic| (k_here; (with_reducible show wpAny _ _ (compareOp CmpOp.Eq (Value.ref _) (Value.ref _)) _ _ _); k_dflt (refine' row_eq ?N ?z1 ?z2 ?m1 ?m2 ?m3 ?m4 ?ku ?_; (case N => k_asm); (case m1 => k_mem); (case m2 => k_mem); (case m3 => k_mem); (case m4 => k_mem); (case z1 => assumption); (case z2 => assumption); (case ku => ktr_units))))
set_option maxRecDepth 100000 in
set_option maxHeartbeats 8000000 in
theorem checked_ok {w : World} {mg mb : Str → Option Value} {mean : ExcName → Option Value}
   {dp un : Nat} {gd : Option (List Code)} {cn : Str} {cs : Scope} {a : Addr} {ccd : Value} {cl : List (Str × Addr)} {A₀ : Around} {h₀ : Heap} {L : Addr} {m : Str → Option Value} {news : List (Addr × Obj)} {s : Shared} {Q E : Value → Shared → Prop}
   {H : Nat → Int} {kt : Nat → Tok} {v : Nat → Int} {t tw : Nat → Tok} {x dx tb lw tbw : Addr} {k1 k2 nw : Nat} {hvs hvsw : List Value} {hs : List Int}
   (hi' : IntsAre hvs hs) (hi2 : IntsAre hvsw hs) (hlen : hs.length ≤ 8) (hv : ∀ p, -10 ^ 30 < v p ∧ v p < 10 ^ 30) (hhb : ∀ x ∈ hs, -10 ^ 30 < x ∧ x < 10 ^ 30)
   (B : Below A₀ h₀ [] h₀) (F : Fr h₀ L s.heap m) (X : (hd.heap_39 w.params).In h₀) (N : News h₀ L s.heap ((x, instObj 82 dx) :: (dx, dictOf (optL H kt v t tb) 21) :: (tb, tupO hvs.toArray k1) :: (lw, W.listOf (wantL v tw tbw).toArray nw) :: (tbw, tupO hvsw.toArray k2) :: news)) (T : Top hd.view_39 (looseW hd.view_39 []) mean mg mb h₀) (hk : cs.kind = .function) (hdp : dp + 4 < recursionLimit) (hu : un + 200 < cLine)
   (ret : ∀ h' tk', Fr h₀ L h' m → News h₀ L h' ((x, instObj 82 dx) :: (dx, dictOf (optL H kt v t tb) 21) :: (tb, tupO hvs.toArray k1) :: (lw, W.listOf (wantL v tw tbw).toArray nw) :: (tbw, tupO hvsw.toArray k2) :: news) → Q (.bool true) { s with heap := h', toks := tk' }) :
   wpAny (model Challenge.rw_pf0283_01.row.prog w) (ktrTop dp un gd cn cs L a ccd cl []) (call (.ref 140) [.ref x, .ref lw]) Q E s := by
  revert X; k_fill; intro X
  refine wpAny_call ?_
  k_dflt (refine' code_defT ?k1 ?k2 ?k3 ?k4 ?k5 ?kA ?kF ?kK ?k6 ?k7 ?k8 ?k9 ?kB ?_ ?c2 ?c3 ?c4 ?c5; (case kA => exact rfl); (case kF => exact rfl); (case kK => assumption); (case k1 => k_asm); (case k2 => k_asm); (case k3 => k_asm); (case k4 => k_asm); (case k5 => k_asm); (case k6 => k_is); (case k7 => k_is); (case k8 => ktr_room); (case k9 => exact BindsTo.of_eq rfl); (case kB => exact locs rfl); (case c2 => exact rfl); (case c3 => exact rfl); (case c4 => exact rfl); (case c5 => decide); k_whole; intro g' L' h' FG' F' N' B' X' T' D'; (try dsimp only); (try k_lift B'); (try k_fold))
  k_steps
  · exact ret _ _ (by k_asm) (news_sub (by k_asm) (by intro p hp; repeat' (first | exact hp | apply List.Mem.tail)))
  · rename May _ _ => r9'
    rename _ ↔ May _ _ => i9'
    rename (_ == _) = false => a9'
    rw [i9'.mpr r9'] at a9'
    cases a9'
  · exact ret _ _ (by k_asm) (news_sub (by k_asm) (by intro p hp; repeat' (first | exact hp | apply List.Mem.tail)))
  · rename ¬ May _ _ => r9'
    rename Bool => b9'
    rename (_ = true ↔ May _ _) => i9'
    rename (_ == _) = false => a9'
    exfalso
    cases b9' with
    | true => exact r9' (i9'.mp rfl)
    | false => cases a9'
end Mine
namespace Mine
theorem fresh_C10 : True := by
  w_top off
  trivial
def updN {α : Type} (v : Nat → α) (p : Nat) (a : α) : Nat → α := fun i => if i = p then a else v i
theorem no17 {p : Int} (h0 : 0 ≤ p) (h1 : p < 17) (n : ¬p = 0 ∧ ¬p = 1 ∧ ¬p = 2 ∧ ¬p = 3 ∧ ¬p = 4 ∧ ¬p = 5 ∧ ¬p = 6 ∧ ¬p = 7 ∧ ¬p = 8 ∧ ¬p = 9 ∧ ¬p = 10 ∧ ¬p = 11 ∧ ¬p = 12 ∧ ¬p = 13 ∧ ¬p = 14 ∧ ¬p = 15 ∧ ¬p = 16) : False := by
  have h := lt17 p.toNat (by omega)
  rcases h with h | h | h | h | h | h | h | h | h | h | h | h | h | h | h | h | h <;> revert n <;> (rw [Int.toNat_of_nonneg h0 |>.symm, h]; decide)
local macro_rules | `(tactic| walk_at "execs cons") => `(tactic| (k_here; (with_reducible refine execs_one ?_)))
local macro_rules | `(tactic| k_all) => `(tactic| assumption)
local macro_rules | `(tactic| walk_at "exec If") => `(tactic| (k_here; refine wpAny_If ?_))
set_option maxRecDepth 100000 in
set_option maxHeartbeats 8000000 in
theorem put_ok {w : World} {mg mb : Str → Option Value} {mean : ExcName → Option Value}
   {dp un : Nat} {gd : Option (List Code)} {cn : Str} {cs : Scope} {a : Addr} {ccd : Value} {cl : List (Str × Addr)} {outer : List Env} {A₀ : Around} {base h₀ : Heap} {L : Addr} {m : Str → Option Value} {news : List (Addr × Obj)} {s : Shared} {Q E : Value → Shared → Prop}
   {H : Nat → Int} {kt : Nat → Tok} {v : Nat → Int} {t : Nat → Tok} {x dx tb : Addr} {place val : Int} {tp tv : Tok}
   (hp0 : 0 ≤ place) (hp1 : place < 17) (hoff : ∀ p ∈ ((x, instObj 82 dx) :: news), p.1 ≠ dx)
   (B : Below A₀ base outer h₀) (F : Fr h₀ L s.heap m) (X : (hd.heap_39 w.params).In h₀) (N : News h₀ L s.heap ((dx, dictOf (optL H kt v t tb) 21) :: (x, instObj 82 dx) :: news)) (T : Top hd.view_39 (looseW hd.view_39 []) mean mg mb h₀) (hk : cs.kind = .function) (hdp : dp + 1 < recursionLimit) (hu : un + 8 < cLine)
   (ret : ∀ h' tk', Fr h₀ L h' m → News h₀ L h' ((dx, dictOf (optL H kt (updN v place.toNat val) (updN t place.toNat tv) tb) 21) :: (x, instObj 82 dx) :: news) → Q .none { s with heap := h', toks := tk' }) :
   wpAny (model Challenge.rw_pf0283_01.row.prog w) (ktrTop dp un gd cn cs L a ccd cl outer) (call (.ref 128) [.ref x, .int place tp, .int val tv]) Q E s := by
  revert X; k_fill; intro X
  refine wpAny_call ?_
  k_dflt cell_enter
  k_steps
  all_goals first
    | (exfalso; refine no17 hp0 hp1 ⟨?_, ?_, ?_, ?_, ?_, ?_, ?_, ?_, ?_, ?_, ?_, ?_, ?_, ?_, ?_, ?_, ?_⟩ <;> assumption)
    | (rename place = _ => e9'; subst e9'; exact ret _ _ (by k_asm) (by k_asm))
set_option maxRecDepth 100000 in
set_option maxHeartbeats 8000000 in
theorem putH_ok {w : World} {mg mb : Str → Option Value} {mean : ExcName → Option Value}
   {dp un : Nat} {gd : Option (List Code)} {cn : Str} {cs : Scope} {a : Addr} {ccd : Value} {cl : List (Str × Addr)} {outer : List Env} {A₀ : Around} {base h₀ : Heap} {L : Addr} {m : Str → Option Value} {news : List (Addr × Obj)} {s : Shared} {Q E : Value → Shared → Prop}
   {H : Nat → Int} {kt : Nat → Tok} {v : Nat → Int} {t : Nat → Tok} {x dx tb tn : Addr} {tp : Tok}
   (hoff : ∀ p ∈ ((x, instObj 82 dx) :: news), p.1 ≠ dx)
   (B : Below A₀ base outer h₀) (F : Fr h₀ L s.heap m) (X : (hd.heap_39 w.params).In h₀) (N : News h₀ L s.heap ((dx, dictOf (optL H kt v t tb) 21) :: (x, instObj 82 dx) :: news)) (T : Top hd.view_39 (looseW hd.view_39 []) mean mg mb h₀) (hk : cs.kind = .function) (hdp : dp + 1 < recursionLimit) (hu : un + 8 < cLine)
   (ret : ∀ h' tk', Fr h₀ L h' m → News h₀ L h' ((dx, dictOf (optL H kt v t tn) 21) :: (x, instObj 82 dx) :: news) → Q .none { s with heap := h', toks := tk' }) :
   wpAny (model Challenge.rw_pf0283_01.row.prog w) (ktrTop dp un gd cn cs L a ccd cl outer) (call (.ref 128) [.ref x, .int 20 tp, .ref tn]) Q E s := by
  revert X; k_fill; intro X
  refine wpAny_call ?_
  k_dflt cell_enter
  k_steps
  exact ret _ _ (by k_asm) (by k_asm)
end Mine
namespace Mine
theorem fresh_C11 : True := by
  w_top off
  trivial
open PySem.Calls
def tl {α : Type} (l : List α) (d : α) : Nat → α := fun i => l.getD i d
def v0 : Nat → Int := tl [1, 32768, 4194304, 12, 4096, 16, 10, 11, 2097152, 7, 4, 12, 10485760, 10, 2, 10, 25] 0
def hs0 : List Int := [1, 2, 1, 3, 1, 2, 1, 4]
def small (v : Nat → Int) : Nat → Int := tl [2, 32, 96, 4, 48, 2, 4, 5, 128, 4, 2, 4, 256, 2, v 14, v 15, v 16] 0
theorem allLt_mem {d : Nat} : ∀ {l : List (Addr × Obj)}, AllLt d l → ∀ p ∈ l, p.1 < d
  | [], _, _, h => nomatch h
  | q :: r, h, p, hp => by
    rcases List.mem_cons.mp hp with rfl | hp
    · exact h.1
    · exact allLt_mem h.2 p hp
local macro_rules | `(tactic| k_all) => `(tactic| assumption)
local macro_rules | `(tactic| walk_at "exec If") => `(tactic| (k_here; refine wpAny_If ?_))
set_option maxRecDepth 100000 in
set_option maxHeartbeats 8000000 in
theorem init_ok {w : World} {mg mb : Str → Option Value} {mean : ExcName → Option Value}
   {dp un : Nat} {gd : Option (List Code)} {cn : Str} {cs : Scope} {a : Addr} {ccd : Value} {cl : List (Str × Addr)} {outer : List Env} {A₀ : Around} {base h₀ : Heap} {L : Addr} {m : Str → Option Value} {news : List (Addr × Obj)} {s : Shared} {Q E : Value → Shared → Prop}
   (B : Below A₀ base outer h₀) (F : Fr h₀ L s.heap m) (X : (hd.heap_39 w.params).In h₀) (N : News h₀ L s.heap news) (T : Top hd.view_39 (looseW hd.view_39 []) mean mg mb h₀) (hk : cs.kind = .function) (hdp : dp + 1 < recursionLimit) (hu : un + 8 < cLine)
   (ret : ∀ x dx tb H kt t hvs k h' tk', (∀ p ∈ news, p.1 < dx) → dx < x → x < tb → IntsAre hvs hs0 → Fr h₀ L h' m → News h₀ L h' ((tb, tupO hvs.toArray k) :: (x, instObj 82 dx) :: (dx, dictOf (optL H kt v0 t tb) 21) :: news) → Q (.ref x) { s with heap := h', toks := tk' }) :
   wpAny (model Challenge.rw_pf0283_01.row.prog w) (ktrTop dp un gd cn cs L a ccd cl outer) (call (.ref 82) []) Q E s := by
  revert X; k_fill; intro X
  k_dflt (refine' call_cls ?k1 ?k2 ?k3 ?k4 ?k5 ?k6 ?_; (case k1 => k_asm); (case k2 => k_asm); (case k3 => k_asm); (case k4 => k_is); (case k5 => k_is); (case k6 => k_is); k_whole; intro x' d' h' F' N' l1 l2; (have hoff : ∀ p ∈ news, p.1 ≠ d' := fun p hp => Nat.ne_of_lt (l1 p hp)); (k_lt2 l2); cell_enter)
  k_steps
  refine ret _ _ _ (tl [_, _, _, _, _, _, _, _, _, _, _, _, _, _, _, _, _, _, _, _, _] 0) (tl [_, _, _, _, _, _, _, _, _, _, _, _, _, _, _, _, _, _, _, _, _] 0) (tl [_, _, _, _, _, _, _, _, _, _, _, _, _, _, _, _, _] 0) _ _ _ _ l1 l2 ?zlt ?zin (by k_asm) (by k_asm)
  case zlt => (refine ltN ?_; omega)
  repeat' constructor
set_option maxRecDepth 100000 in
set_option maxHeartbeats 8000000 in
theorem first_ok {w : World} {mg mb : Str → Option Value} {mean : ExcName → Option Value}
   {dp un : Nat} {gd : Option (List Code)} {cn : Str} {cs : Scope} {a : Addr} {ccd : Value} {cl : List (Str × Addr)} {outer : List Env} {A₀ : Around} {base h₀ : Heap} {L : Addr} {m : Str → Option Value} {news : List (Addr × Obj)} {s : Shared} {Q E : Value → Shared → Prop}
   (B : Below A₀ base outer h₀) (F : Fr h₀ L s.heap m) (X : (hd.heap_39 w.params).In h₀) (N : News h₀ L s.heap news) (T : Top hd.view_39 (looseW hd.view_39 []) mean mg mb h₀) (hk : cs.kind = .function) (hdp : dp + 1 < recursionLimit) (hu : un + 8 < cLine)
   (ret : ∀ lw tbw tw hvs k n h' tk', (∀ p ∈ news, p.1 < tbw) → tbw < lw → IntsAre hvs hs0 → Fr h₀ L h' m → News h₀ L h' ((lw, W.listOf (wantL v0 tw tbw).toArray n) :: (tbw, tupO hvs.toArray k) :: news) → Q (.ref lw) { s with heap := h', toks := tk' }) :
   wpAny (model Challenge.rw_pf0283_01.row.prog w) (ktrTop dp un gd cn cs L a ccd cl outer) (call (.ref 107) []) Q E s := by
  revert X; k_fill; intro X
  refine wpAny_call ?_
  k_dflt cell_enter
  k_steps
  refine ret _ _ (tl [_, _, _, _, _, _, _, _, _, _, _, _, _, _, _, _, _] 0) _ _ _ _ _ (by assumption) ?zlt ?zin (by k_asm) (by k_asm)
  case zlt => (refine ltN ?_; omega)
  repeat' constructor
set_option maxRecDepth 100000 in
set_option maxHeartbeats 8000000 in
theorem tiny_ok {w : World} {mg mb : Str → Option Value} {mean : ExcName → Option Value}
   {dp un : Nat} {gd : Option (List Code)} {cn : Str} {cs : Scope} {a : Addr} {ccd : Value} {cl : List (Str × Addr)} {outer : List Env} {A₀ : Around} {base h₀ : Heap} {L : Addr} {m : Str → Option Value} {news : List (Addr × Obj)} {s : Shared} {Q E : Value → Shared → Prop}
   {H : Nat → Int} {kt : Nat → Tok} {v : Nat → Int} {t : Nat → Tok} {x dx tb : Addr}
   (hoff : ∀ p ∈ ((x, instObj 82 dx) :: news), p.1 ≠ dx)
   (B : Below A₀ base outer h₀) (F : Fr h₀ L s.heap m) (X : (hd.heap_39 w.params).In h₀) (N : News h₀ L s.heap ((dx, dictOf (optL H kt v t tb) 21) :: (x, instObj 82 dx) :: news)) (T : Top hd.view_39 (looseW hd.view_39 []) mean mg mb h₀) (hk : cs.kind = .function) (hdp : dp + 1 < recursionLimit) (hu : un + 8 < cLine)
   (ret : ∀ t' h' tk', Fr h₀ L h' m → News h₀ L h' ((dx, dictOf (optL H kt (small v) t' tb) 21) :: (x, instObj 82 dx) :: news) → Q (.ref x) { s with heap := h', toks := tk' }) :
   wpAny (model Challenge.rw_pf0283_01.row.prog w) (ktrTop dp un gd cn cs L a ccd cl outer) (call (.ref 79) [.ref x]) Q E s := by
  revert X; k_fill; intro X
  refine wpAny_call ?_
  k_dflt cell_enter
  k_steps
  exact ret (tl [_, _, _, _, _, _, _, _, _, _, _, _, _, _, _, _, _] 0) _ _ (by k_asm) (by k_asm)
set_option maxRecDepth 100000 in
set_option maxHeartbeats 8000000 in
theorem small_ok {w : World} {mg mb : Str → Option Value} {mean : ExcName → Option Value}
   {dp un : Nat} {gd : Option (List Code)} {cn : Str} {cs : Scope} {a : Addr} {ccd : Value} {cl : List (Str × Addr)} {outer : List Env} {A₀ : Around} {base h₀ : Heap} {L : Addr} {m : Str → Option Value} {news : List (Addr × Obj)} {s : Shared} {Q E : Value → Shared → Prop}
   {v : Nat → Int} {tw : Nat → Tok} {lw tbw : Addr} {n : Nat}
   (B : Below A₀ base outer h₀) (F : Fr h₀ L s.heap m) (X : (hd.heap_39 w.params).In h₀) (N : News h₀ L s.heap ((lw, W.listOf (wantL v tw tbw).toArray n) :: news)) (T : Top hd.view_39 (looseW hd.view_39 []) mean mg mb h₀) (hk : cs.kind = .function) (hdp : dp + 1 < recursionLimit) (hu : un + 8 < cLine)
   (ret : ∀ l t' n' h' tk', (∀ p ∈ ((lw, W.listOf (wantL v tw tbw).toArray n) :: news), p.1 < l) → Fr h₀ L h' m → News h₀ L h' ((l, W.listOf (wantL (small v) t' tbw).toArray n') :: (lw, W.listOf (wantL v tw tbw).toArray n) :: news) → Q (.ref l) { s with heap := h', toks := tk' }) :
   wpAny (model Challenge.rw_pf0283_01.row.prog w) (ktrTop dp un gd cn cs L a ccd cl outer) (call (.ref 114) [.ref lw]) Q E s := by
  revert X; k_fill; intro X
  refine wpAny_call ?_
  k_dflt cell_enter
  k_steps
  rename _ ∧ _ ∧ _ ∧ AllLt _ news => l9
  refine ret _ (tl [_, _, _, _, _, _, _, _, _, _, _, _, _, _, _, _, _] 0) _ _ _ ?_ (by k_asm) (news_sub (by k_asm) (by intro p hp; (rcases List.mem_cons.mp hp with rfl | hp); exact List.Mem.head _; (repeat' (first | exact hp | apply List.Mem.tail))))
  exact allLt_mem (l := _ :: news) ⟨l9.2.2.1, l9.2.2.2⟩
end Mine
namespace Mine
open PySem.Calls
section
variable {prog : Program} {w : World} {A : Around} {E : Value → Shared → Prop} {s : Shared} {env : Env} {h₀ : Heap} {x : Str} {body : List Stmt} {Q : Flow → Shared → Prop}
def GenPost (h₀ : Heap) (L I : Addr) (oI : Obj) (J : (Str → Option Value) → List (Addr × Obj) → Prop) (s₁ : Shared) (Q : Flow → Shared → Prop) (f : Flow) (s₂ : Shared) : Prop :=
  match f with
  | .ret v => Q (.ret v) s₂
  | .brk => Q .next s₂
  | _ => ∃ h' tk m' news', s₂ = { s₁ with heap := h', toks := tk } ∧ Fr h₀ L h' m' ∧ News h₀ L h' ((I, oI) :: news') ∧ (∀ p ∈ news', p.1 ≠ I) ∧ J m' news'
theorem gen_end {L I : Addr} {oI : Obj} {J : (Str → Option Value) → List (Addr × Obj) → Prop} {s₁ : Shared} {h' : Heap} {tk : Nat} {m' : Str → Option Value} {news' : List (Addr × Obj)}
    (F : Fr h₀ L h' m') (N : News h₀ L h' ((I, oI) :: news')) (ho : ∀ p ∈ news', p.1 ≠ I) (hj : J m' news') : GenPost h₀ L I oI J s₁ Q .next { s₁ with heap := h', toks := tk } := ⟨h', tk, m', news', rfl, F, N, ho, hj⟩
theorem iter_gen {l : Addr} {vs : List Value} {ns : List Int} {nn : Nat} {m₀ : Str → Option Value} {news : List (Addr × Obj)} (J : Nat → (Str → Option Value) → List (Addr × Obj) → Prop)
    (hh : A.handled = none) (hJl : ∀ i m nw, J i m nw → (l, W.listOf vs.toArray nn) ∈ nw) (hi : IntsAre vs ns) (F : Fr h₀ env.locals s.heap m₀) (N : News h₀ env.locals s.heap news) (hj : J 0 m₀ news)
    (turn : ∀ (i : Nat) (n : Int) (t : Tok) (m₁ : Str → Option Value) (news₁ : List (Addr × Obj)) (h : Heap) (tk : Nat) (I : Addr) (oI : Obj), ns[i]? = some n → J i m₁ news₁ → (∀ p ∈ news₁, p.1 ≠ I) →
      Fr h₀ env.locals h (fun y => if y = x then some (.int n t) else m₁ y) → News h₀ env.locals h ((I, oI) :: news₁) →
      wpAny (model prog w) A (execs body env) (GenPost h₀ env.locals I oI (J (i + 1)) { s with heap := h, toks := tk } Q) E { s with heap := h, toks := tk })
    (done : ∀ (m₁ : Str → Option Value) (news₁ : List (Addr × Obj)) (h : Heap) (tk : Nat), J ns.length m₁ news₁ → Fr h₀ env.locals h m₁ → News h₀ env.locals h news₁ → Q .next { s with heap := h, toks := tk }) :
    wpAny (model prog w) A (pyIter (.ref l)) (fun it s₂ => LoopAtV prog w A h₀ env x body Q E it s₂) E s := by
  have hm := hJl _ _ _ hj
  have hax := N _ hm
  have hls : s.heap.IsList l vs.toArray := News.isList N hm
  have hlt : l < s.heap.objs.size := Heap.lt_size hax.1
  have hne : l ≠ s.heap.objs.size := Nat.ne_of_lt hlt
  refine wpAny_pyIter_list hls ?_
  have WK := Walks.list (prog := prog) (w := w) hh s.heap.objs.size l hne vs.toArray
  have hlen : vs.toArray.size = ns.length := by simp [hi.length]
  rw [hlen] at WK
  refine ⟨_, _, _, ns.length, _, _, m₀, news, J, rfl, WK, ?_, ?_, ?_, ⟨⟨_, Heap.get?_push_size _ rfl, rfl, rfl⟩, hls.at fun o e => Heap.get?_push_of_some _ e⟩, F.push _, (fun p hp => ⟨Heap.get?_push_of_some _ (N p hp).1, (N p hp).2⟩), hj, ?_, ?_⟩
  · intro hI
    rcases List.mem_cons.mp hI with e | hI
    · exact absurd F.ns.lt (e ▸ Nat.lt_irrefl _)
    · exact hax.2.1 (List.mem_singleton.mp hI).symm
  · intro b hb
    rw [List.mem_singleton.mp hb]
    exact next_is_new F
  · intro p hp hI
    exact absurd (Heap.lt_size (N p hp).1) ((List.mem_singleton.mp hI) ▸ Nat.lt_irrefl _)
  · rintro i v m₁ news₁ s₁ own ⟨hh', tk', rfl⟩ hin hP hJ hoff hown hget hall hst F₁ N₁
    have hlt' : i < ns.length := hin
    obtain ⟨t, hx⟩ := hi.get i ns[i] (by simp [hlt'])
    have hv : v = .int ns[i] t := by
      have hP' : vs[i]? = some v := by simpa using hP
      rw [hx] at hP'; exact (Option.some.inj hP').symm
    subst hv
    obtain ⟨oI, hoI, _⟩ := id hst.1
    have hIown : (s.heap.objs.size, oI) ∈ own := hall _ (by simp) (next_is_new F) _ hoI
    have hoff' : ∀ p ∈ news₁, p.1 ≠ s.heap.objs.size := fun p hp e => hoff p hp (by simp [e])
    have N₂ : News h₀ env.locals hh' ((s.heap.objs.size, oI) :: news₁) := fun p hp => by
      rcases List.mem_cons.mp hp with rfl | hp
      · exact N₁ _ (List.mem_append_left _ hIown)
      · exact N₁ _ (List.mem_append_right _ hp)
    refine wpAny_mono (turn i ns[i] t m₁ news₁ hh' tk' s.heap.objs.size oI (by simp [hlt']) hJ hoff' F₁ N₂) (fun f s₂ p => ?_) fun _ _ e => e
    have fin : (∃ h' tk m' news', s₂ = { { s with heap := hh', toks := tk' } with heap := h', toks := tk } ∧ Fr h₀ env.locals h' m' ∧ News h₀ env.locals h' ((s.heap.objs.size, oI) :: news') ∧ (∀ p ∈ news', p.1 ≠ s.heap.objs.size) ∧ J (i + 1) m' news') →
        LoopStepU h₀ env.locals [s.heap.objs.size] own (J (i + 1)) { s with heap := hh', toks := tk' } .next s₂ := by
      rintro ⟨h', tk, m', news', e, F', N', ho, hj'⟩
      refine ⟨rfl, h', tk, m', news', e, F', fun p hp => ?_, fun p hp hq => ho p hp (List.mem_singleton.mp hq), hj'⟩
      rcases List.mem_append.mp hp with hp | hp
      · have h2 := hget p hp
        rcases List.mem_cons.mp (hown p hp) with h1 | h1
        · have e1 : p = (s.heap.objs.size, oI) := by
            have h3 : hh'.get? s.heap.objs.size = some p.2 := by rw [← h1]; exact h2
            have h4 : some oI = some p.2 := hoI.symm.trans h3
            cases p; simp only at h1 h4; cases h4; rw [h1]
          rw [e1]; exact N' _ (.head _)
        · have h1' : p.1 = l := List.mem_singleton.mp h1
          have hl2 := hJl _ _ _ hj'
          have h3 : hh'.get? l = some (W.listOf vs.toArray nn) := (N₂ _ (.tail _ (hJl _ _ _ hJ))).1
          have e1 : p = (l, W.listOf vs.toArray nn) := by
            have h4 : hh'.get? l = some p.2 := by rw [← h1']; exact h2
            rw [h3] at h4
            cases p; simp only at h1' h4; cases h4; rw [h1']
          rw [e1]; exact N' _ (.tail _ hl2)
      · exact N' _ (.tail _ hp)
    cases f with
    | ret v => exact .ret p
    | brk => exact .brk p
    | next => exact .next (fin p)
    | cont => exact .cont (fin p)
  · rintro h' tk m' news' F' N' _ hJ
    exact done m' news' h' tk hJ F' N'
end
end Mine
namespace Mine
open PySem.Calls
structure Apart (a b : Nat) : Prop where
  ne : a ≠ b
theorem Apart.symm {a b : Nat} (h : Apart a b) : b ≠ a := Ne.symm h.ne
structure Fixed (c dx lw x l a2 a3 a4 a5 : Nat) : Prop where
  f0 : Apart c lw
  f1 : Apart c dx
  f2 : Apart c x
  f3 : Apart c l
  f4 : Apart c a2
  f5 : Apart c a3
  f6 : Apart c a4
  f7 : Apart c a5
  f8 : Apart lw dx
  f9 : Apart lw x
  f10 : Apart lw l
  f11 : Apart lw a2
  f12 : Apart lw a3
  f13 : Apart lw a4
  f14 : Apart lw a5
  f15 : Apart dx x
  f16 : Apart dx l
  f17 : Apart dx a2
  f18 : Apart dx a3
  f19 : Apart dx a4
  f20 : Apart dx a5
theorem fa {α : Type} {P : α → Prop} {a : α} {l : List α} (h : P a) (t : ∀ p ∈ l, P p) : ∀ p ∈ a :: l, P p := List.forall_mem_cons.mpr ⟨h, t⟩
theorem fn {α : Type} {P : α → Prop} : ∀ p ∈ ([] : List α), P p := fun _ h => nomatch h
def LOk (v : Nat → Int) (hs : List Int) (hvs hvsw : List Value) : Prop := May v hs ∧ (∀ p, -10 ^ 30 < v p ∧ v p < 10 ^ 30) ∧ (∀ x ∈ hs, -10 ^ 30 < x ∧ x < 10 ^ 30) ∧ hs.length ≤ 8 ∧ IntsAre hvs hs ∧ IntsAre hvsw hs
section
variable {prog : Program} {w : World} {A : Around} {E : Value → Shared → Prop} {s : Shared} {env : Env} {h₀ : Heap} {x9 : Str} {body : List Stmt} {Q : Flow → Shared → Prop}
def LPost (h₀ : Heap) (L I : Addr) (oI : Obj) (c dx lw x l : Addr) (H : Nat → Int) (kt : Nat → Tok) (vs : List Value) (nn : Nat) (o2 o3 o4 o5 : Addr × Obj) (x9 : Str) (m₀ : Str → Option Value) (s₁ : Shared) (Q : Flow → Shared → Prop) (f : Flow) (s₂ : Shared) : Prop :=
  match f with
  | .ret v => Q (.ret v) s₂
  | .brk => Q .next s₂
  | _ => ∃ (v : Nat → Int) (t tw : Nat → Tok) (tb tbw : Addr) (hvs hvsw : List Value) (hs : List Int) (k1 k2 nw : Nat) (co : Obj) (cv : Option Value) (h' : Heap) (tk : Nat) (m' : Str → Option Value), s₂ = { s₁ with heap := h', toks := tk } ∧ Fr h₀ L h' m' ∧ News h₀ L h' ((I, oI) :: [(lw, W.listOf (wantL v tw tbw).toArray nw), (tbw, tupO hvsw.toArray k2), (tb, tupO hvs.toArray k1), (dx, dictOf (optL H kt v t tb) 21), (x, instObj 82 dx), o2, o3, o4, (l, W.listOf vs.toArray nn), o5, (c, co)]) ∧ (@Ne Nat tb I ∧ @Ne Nat tbw I) ∧ (∀ z, (x9 :: [Str.ofString "place", Str.ofString "value", Str.ofString "old"]).contains z = false → m' z = m₀ z) ∧
      (LOk v hs hvs hvsw ∧ (@Ne Nat tb c ∧ @Ne Nat tb dx ∧ @Ne Nat tb lw) ∧ (@Ne Nat tbw c ∧ @Ne Nat tbw dx ∧ @Ne Nat tbw lw) ∧ co.data = .cell cv)
theorem lp_end {L I : Addr} {oI : Obj} {c dx lw x l : Addr} {H : Nat → Int} {kt : Nat → Tok} {vs : List Value} {nn : Nat} {o2 o3 o4 o5 : Addr × Obj} {m₀ : Str → Option Value} {s₁ : Shared} {v : Nat → Int} {t tw : Nat → Tok} {tb tbw : Addr} {hvs hvsw : List Value} {hs : List Int} {k1 k2 nw : Nat} {co : Obj} {cv : Option Value} {h' : Heap} {tk : Nat} {m' : Str → Option Value}
    (F : Fr h₀ L h' m') (N : News h₀ L h' ((I, oI) :: [(lw, W.listOf (wantL v tw tbw).toArray nw), (tbw, tupO hvsw.toArray k2), (tb, tupO hvs.toArray k1), (dx, dictOf (optL H kt v t tb) 21), (x, instObj 82 dx), o2, o3, o4, (l, W.listOf vs.toArray nn), o5, (c, co)])) (hI : @Ne Nat tb I ∧ @Ne Nat tbw I) (hm : ∀ z, (x9 :: [Str.ofString "place", Str.ofString "value", Str.ofString "old"]).contains z = false → m' z = m₀ z)
    (h1 : LOk v hs hvs hvsw) (h2 : @Ne Nat tb c ∧ @Ne Nat tb dx ∧ @Ne Nat tb lw) (h3 : @Ne Nat tbw c ∧ @Ne Nat tbw dx ∧ @Ne Nat tbw lw) (h4 : co.data = .cell cv) :
    LPost h₀ L I oI c dx lw x l H kt vs nn o2 o3 o4 o5 x9 m₀ s₁ Q .next { s₁ with heap := h', toks := tk } := ⟨v, t, tw, tb, tbw, hvs, hvsw, hs, k1, k2, nw, co, cv, h', tk, m', rfl, F, N, hI, hm, h1, h2, h3, h4⟩
theorem law_loop {c dx lw x l tb0 tbw0 : Addr} {H : Nat → Int} {kt : Nat → Tok} {vs : List Value} {ns : List Int} {nn : Nat} {o2 o3 o4 o5 : Addr × Obj} {m₀ : Str → Option Value} {v0' : Nat → Int} {t0 tw0 : Nat → Tok} {hvs0 hvsw0 : List Value} {hs0' : List Int} {k10 k20 n0 : Nat} {co0 : Obj} {cv0 : Option Value}
    (hh : A.handled = none) (F : Fr h₀ env.locals s.heap m₀) (N : News h₀ env.locals s.heap [(l, W.listOf vs.toArray nn), (lw, W.listOf (wantL v0' tw0 tbw0).toArray n0), (tbw0, tupO hvsw0.toArray k20), o2, o3, o4, (tb0, tupO hvs0.toArray k10), (x, instObj 82 dx), (dx, dictOf (optL H kt v0' t0 tb0) 21), o5, (c, co0)])
    (hi : IntsAre vs ns) (h1 : LOk v0' hs0' hvs0 hvsw0) (h2 : @Ne Nat tb0 c ∧ @Ne Nat tb0 dx ∧ @Ne Nat tb0 lw) (h3 : @Ne Nat tbw0 c ∧ @Ne Nat tbw0 dx ∧ @Ne Nat tbw0 lw) (h4 : co0.data = .cell cv0) (hfx : Fixed c dx lw x l o2.1 o3.1 o4.1 o5.1)
    (turn : ∀ (v : Nat → Int) (t tw : Nat → Tok) (tb tbw : Addr) (hvs hvsw : List Value) (hs : List Int) (k1 k2 nw : Nat) (co : Obj) (cv : Option Value) (n : Int) (tn : Tok) (u : Str → Option Value) (h : Heap) (tk : Nat) (I : Addr) (oI : Obj), n ∈ ns → Fixed c dx lw x l o2.1 o3.1 o4.1 o5.1 → LOk v hs hvs hvsw → (@Ne Nat tb c ∧ @Ne Nat tb dx ∧ @Ne Nat tb lw) → (@Ne Nat tbw c ∧ @Ne Nat tbw dx ∧ @Ne Nat tbw lw) → co.data = .cell cv → (@Ne Nat tb I ∧ @Ne Nat tbw I ∧ @Ne Nat lw I ∧ @Ne Nat dx I ∧ @Ne Nat c I) →
      Fr h₀ env.locals h (fun y => if y = x9 then some (.int n tn) else if [Str.ofString "place", Str.ofString "value", Str.ofString "old"].contains y = true then u y else m₀ y) → News h₀ env.locals h ((I, oI) :: [(lw, W.listOf (wantL v tw tbw).toArray nw), (tbw, tupO hvsw.toArray k2), (tb, tupO hvs.toArray k1), (dx, dictOf (optL H kt v t tb) 21), (x, instObj 82 dx), o2, o3, o4, (l, W.listOf vs.toArray nn), o5, (c, co)]) →
      wpAny (model prog w) A (execs body env) (LPost h₀ env.locals I oI c dx lw x l H kt vs nn o2 o3 o4 o5 x9 m₀ { s with heap := h, toks := tk } Q) E { s with heap := h, toks := tk })
    (done : ∀ (v : Nat → Int) (t tw : Nat → Tok) (tb tbw : Addr) (hvs hvsw : List Value) (hs : List Int) (k1 k2 nw : Nat) (co : Obj) (cv : Option Value) (u : Str → Option Value) (h : Heap) (tk : Nat), LOk v hs hvs hvsw → (@Ne Nat tb c ∧ @Ne Nat tb dx ∧ @Ne Nat tb lw) → (@Ne Nat tbw c ∧ @Ne Nat tbw dx ∧ @Ne Nat tbw lw) → co.data = .cell cv →
      Fr h₀ env.locals h (fun y => if (x9 :: [Str.ofString "place", Str.ofString "value", Str.ofString "old"]).contains y = true then u y else m₀ y) → News h₀ env.locals h [(lw, W.listOf (wantL v tw tbw).toArray nw), (tbw, tupO hvsw.toArray k2), (tb, tupO hvs.toArray k1), (dx, dictOf (optL H kt v t tb) 21), (x, instObj 82 dx), o2, o3, o4, (l, W.listOf vs.toArray nn), o5, (c, co)] → Q .next { s with heap := h, toks := tk }) :
    wpAny (model prog w) A (pyIter (.ref l)) (fun it s₂ => LoopAtV prog w A h₀ env x9 body Q E it s₂) E s := by
  refine iter_gen (vs := vs) (ns := ns) (nn := nn) (news := [(lw, W.listOf (wantL v0' tw0 tbw0).toArray n0), (tbw0, tupO hvsw0.toArray k20), (tb0, tupO hvs0.toArray k10), (dx, dictOf (optL H kt v0' t0 tb0) 21), (x, instObj 82 dx), o2, o3, o4, (l, W.listOf vs.toArray nn), o5, (c, co0)])
    (fun _ m nws => ∃ (v : Nat → Int) (t tw : Nat → Tok) (tb tbw : Addr) (hvs hvsw : List Value) (hs : List Int) (k1 k2 nw : Nat) (co : Obj) (cv : Option Value), nws = [(lw, W.listOf (wantL v tw tbw).toArray nw), (tbw, tupO hvsw.toArray k2), (tb, tupO hvs.toArray k1), (dx, dictOf (optL H kt v t tb) 21), (x, instObj 82 dx), o2, o3, o4, (l, W.listOf vs.toArray nn), o5, (c, co)] ∧ (∀ z, (x9 :: [Str.ofString "place", Str.ofString "value", Str.ofString "old"]).contains z = false → m z = m₀ z) ∧ (LOk v hs hvs hvsw ∧ (@Ne Nat tb c ∧ @Ne Nat tb dx ∧ @Ne Nat tb lw) ∧ (@Ne Nat tbw c ∧ @Ne Nat tbw dx ∧ @Ne Nat tbw lw) ∧ co.data = .cell cv)) hh ?_ hi F ?_ ?_ ?_ ?_
  · rintro i m nws ⟨v, t, tw, tb, tbw, hvs, hvsw, hs, k1, k2, nw, co, cv, rfl, _⟩
    simp
  · refine news_sub N (fa ?_ (fa ?_ (fa ?_ (fa ?_ (fa ?_ (fa ?_ (fa ?_ (fa ?_ (fa ?_ (fa ?_ (fa ?_ fn)))))))))))
    all_goals repeat' (first | exact List.Mem.head _ | apply List.Mem.tail)
  · exact ⟨v0', t0, tw0, tb0, tbw0, hvs0, hvsw0, hs0', k10, k20, n0, co0, cv0, rfl, fun _ _ => rfl, h1, h2, h3, h4⟩
  · rintro i n tn m₁ nws h tk I oI hn ⟨v, t, tw, tb, tbw, hvs, hvsw, hs, k1, k2, nw, co, cv, rfl, hm, g1, g2, g3, g4⟩ hoff F₁ N₁
    have hne : ∀ a o, (a, o) ∈ [(lw, W.listOf (wantL v tw tbw).toArray nw), (tbw, tupO hvsw.toArray k2), (tb, tupO hvs.toArray k1), (dx, dictOf (optL H kt v t tb) 21), (x, instObj 82 dx), o2, o3, o4, (l, W.listOf vs.toArray nn), o5, (c, co)] → @Ne Nat a I := fun a o hp => hoff (a, o) hp
    have em : (fun y => if y = x9 then some (Value.int n tn) else m₁ y) = fun y => if y = x9 then some (Value.int n tn) else if [Str.ofString "place", Str.ofString "value", Str.ofString "old"].contains y = true then m₁ y else m₀ y := by
      funext y
      by_cases hy : y = x9
      · rw [if_pos hy, if_pos hy]
      · rw [if_neg hy, if_neg hy]
        by_cases hs : [Str.ofString "place", Str.ofString "value", Str.ofString "old"].contains y = true
        · rw [if_pos hs]
        · rw [if_neg hs]
          refine hm y ?_
          rw [List.contains_cons]
          simp only [Bool.or_eq_false_iff, beq_eq_false_iff_ne]
          exact ⟨hy, by simpa using hs⟩
    rw [em] at F₁
    refine wpAny_mono (turn v t tw tb tbw hvs hvsw hs k1 k2 nw co cv n tn m₁ h tk I oI (List.mem_of_getElem? hn) hfx g1 g2 g3 g4 ⟨hne tb _ (by repeat' (first | exact List.Mem.head _ | apply List.Mem.tail)), hne tbw _ (by repeat' (first | exact List.Mem.head _ | apply List.Mem.tail)), hne lw _ (by repeat' (first | exact List.Mem.head _ | apply List.Mem.tail)), hne dx _ (by repeat' (first | exact List.Mem.head _ | apply List.Mem.tail)), hne c _ (by repeat' (first | exact List.Mem.head _ | apply List.Mem.tail))⟩ F₁ N₁) (fun f s₂ hp => ?_) fun _ _ e => e
    have fin : LPost h₀ env.locals I oI c dx lw x l H kt vs nn o2 o3 o4 o5 x9 m₀ { s with heap := h, toks := tk } Q .next s₂ → GenPost h₀ env.locals I oI (fun m nws => ∃ (v : Nat → Int) (t tw : Nat → Tok) (tb tbw : Addr) (hvs hvsw : List Value) (hs : List Int) (k1 k2 nw : Nat) (co : Obj) (cv : Option Value), nws = [(lw, W.listOf (wantL v tw tbw).toArray nw), (tbw, tupO hvsw.toArray k2), (tb, tupO hvs.toArray k1), (dx, dictOf (optL H kt v t tb) 21), (x, instObj 82 dx), o2, o3, o4, (l, W.listOf vs.toArray nn), o5, (c, co)] ∧ (∀ z, (x9 :: [Str.ofString "place", Str.ofString "value", Str.ofString "old"]).contains z = false → m z = m₀ z) ∧ (LOk v hs hvs hvsw ∧ (@Ne Nat tb c ∧ @Ne Nat tb dx ∧ @Ne Nat tb lw) ∧ (@Ne Nat tbw c ∧ @Ne Nat tbw dx ∧ @Ne Nat tbw lw) ∧ co.data = .cell cv)) { s with heap := h, toks := tk } Q .next s₂ := by
      rintro ⟨v', t', tw', tb', tbw', hvs', hvsw', hs', k1', k2', nw', co', cv', h', tk', m', e, F', N', hI', hm', g⟩
      refine ⟨h', tk', m', _, e, F', N', fa (hne lw _ (by repeat' (first | exact List.Mem.head _ | apply List.Mem.tail))) (fa hI'.2 (fa hI'.1 (fa (hne dx _ (by repeat' (first | exact List.Mem.head _ | apply List.Mem.tail))) (fa (hne x _ (by repeat' (first | exact List.Mem.head _ | apply List.Mem.tail))) (fa (hoff _ (by repeat' (first | exact List.Mem.head _ | apply List.Mem.tail))) (fa (hoff _ (by repeat' (first | exact List.Mem.head _ | apply List.Mem.tail))) (fa (hoff _ (by repeat' (first | exact List.Mem.head _ | apply List.Mem.tail))) (fa (hne l _ (by repeat' (first | exact List.Mem.head _ | apply List.Mem.tail))) (fa (hoff _ (by repeat' (first | exact List.Mem.head _ | apply List.Mem.tail))) (fa (hne c _ (by repeat' (first | exact List.Mem.head _ | apply List.Mem.tail))) fn)))))))))), v', t', tw', tb', tbw', hvs', hvsw', hs', k1', k2', nw', co', cv', rfl, hm', g⟩
    cases f with
    | ret v => exact hp
    | brk => exact hp
    | next => exact fin hp
    | cont => exact fin hp
  · rintro m₁ nws h tk ⟨v, t, tw, tb, tbw, hvs, hvsw, hs, k1, k2, nw, co, cv, rfl, hm, g1, g2, g3, g4⟩ F₁ N₁
    refine done v t tw tb tbw hvs hvsw hs k1 k2 nw co cv m₁ h tk g1 g2 g3 g4 (fr_stored F₁ hm) N₁
end
end Mine
namespace Mine
open PySem.Calls
theorem put_ok2 {w : World} {mg mb : Str → Option Value} {mean : ExcName → Option Value}
   {dp un : Nat} {gd : Option (List Code)} {cn : Str} {cs : Scope} {a : Addr} {ccd : Value} {cl : List (Str × Addr)} {outer : List Env} {A₀ : Around} {base h₀ : Heap} {L : Addr} {m : Str → Option Value} {news news' : List (Addr × Obj)} {s : Shared} {Q E : Value → Shared → Prop}
   {H : Nat → Int} {kt : Nat → Tok} {v : Nat → Int} {t : Nat → Tok} {x dx tb : Addr} {place val : Int} {tp tv : Tok}
   (hp0 : 0 ≤ place) (hp1 : place < 17) (B : Below A₀ base outer h₀) (F : Fr h₀ L s.heap m) (X : (hd.heap_39 w.params).In h₀) (N : News h₀ L s.heap news) (T : Top hd.view_39 (looseW hd.view_39 []) mean mg mb h₀) (hk : cs.kind = .function) (hdp : dp + 1 < recursionLimit) (hu : un + 8 < cLine)
   (U : Upd dx (dictOf (optL H kt v t tb) 21) (dictOf (optL H kt (updN v place.toNat val) (updN t place.toNat tv) tb) 21) news news') (hx : (x, instObj 82 dx) ∈ news) (hxd : x ≠ dx)
   (ret : ∀ h' tk', Fr h₀ L h' m → News h₀ L h' news' → Q .none { s with heap := h', toks := tk' }) :
   wpAny (model Challenge.rw_pf0283_01.row.prog w) (ktrTop dp un gd cn cs L a ccd cl outer) (call (.ref 128) [.ref x, .int place tp, .int val tv]) Q E s := by
  obtain ⟨pre, post, rfl, rfl, a1, b1⟩ := U.split
  have hx' : (x, instObj 82 dx) ∈ pre ++ post := by
    rcases List.mem_append.mp hx with h | h
    · exact List.mem_append_left _ h
    · rcases List.mem_cons.mp h with h | h
      · exact absurd (congrArg Prod.fst h) hxd
      · exact List.mem_append_right _ h
  have off : ∀ p ∈ (x, instObj 82 dx) :: (pre ++ post), p.1 ≠ dx := fun p hp => by
    rcases List.mem_cons.mp hp with rfl | hp
    · exact hxd
    · rcases List.mem_append.mp hp with hp | hp
      · exact a1 p hp
      · exact b1 p hp
  have N' : News h₀ L s.heap ((dx, dictOf (optL H kt v t tb) 21) :: (x, instObj 82 dx) :: (pre ++ post)) := news_sub N fun p hp => by
    rcases List.mem_cons.mp hp with rfl | hp
    · simp
    · rcases List.mem_cons.mp hp with rfl | hp
      · exact hx
      · rcases List.mem_append.mp hp with hp | hp <;> simp [hp]
  exact put_ok hp0 hp1 off B F X N' T hk hdp hu (fun h' tk' F' N' => ret h' tk' F' (news_sub N' fun p hp => by
    rcases List.mem_append.mp hp with hp | hp
    · simp [hp]
    · rcases List.mem_cons.mp hp with rfl | hp <;> simp_all))
theorem putH_ok2 {w : World} {mg mb : Str → Option Value} {mean : ExcName → Option Value}
   {dp un : Nat} {gd : Option (List Code)} {cn : Str} {cs : Scope} {a : Addr} {ccd : Value} {cl : List (Str × Addr)} {outer : List Env} {A₀ : Around} {base h₀ : Heap} {L : Addr} {m : Str → Option Value} {news news' : List (Addr × Obj)} {s : Shared} {Q E : Value → Shared → Prop}
   {H : Nat → Int} {kt : Nat → Tok} {v : Nat → Int} {t : Nat → Tok} {x dx tb tn : Addr} {tp : Tok}
   (B : Below A₀ base outer h₀) (F : Fr h₀ L s.heap m) (X : (hd.heap_39 w.params).In h₀) (N : News h₀ L s.heap news) (T : Top hd.view_39 (looseW hd.view_39 []) mean mg mb h₀) (hk : cs.kind = .function) (hdp : dp + 1 < recursionLimit) (hu : un + 8 < cLine)
   (U : Upd dx (dictOf (optL H kt v t tb) 21) (dictOf (optL H kt v t tn) 21) news news') (hx : (x, instObj 82 dx) ∈ news) (hxd : x ≠ dx)
   (ret : ∀ h' tk', Fr h₀ L h' m → News h₀ L h' news' → Q .none { s with heap := h', toks := tk' }) :
   wpAny (model Challenge.rw_pf0283_01.row.prog w) (ktrTop dp un gd cn cs L a ccd cl outer) (call (.ref 128) [.ref x, .int 20 tp, .ref tn]) Q E s := by
  obtain ⟨pre, post, rfl, rfl, a1, b1⟩ := U.split
  have hx' : (x, instObj 82 dx) ∈ pre ++ post := by
    rcases List.mem_append.mp hx with h | h
    · exact List.mem_append_left _ h
    · rcases List.mem_cons.mp h with h | h
      · exact absurd (congrArg Prod.fst h) hxd
      · exact List.mem_append_right _ h
  have off : ∀ p ∈ (x, instObj 82 dx) :: (pre ++ post), p.1 ≠ dx := fun p hp => by
    rcases List.mem_cons.mp hp with rfl | hp
    · exact hxd
    · rcases List.mem_append.mp hp with hp | hp
      · exact a1 p hp
      · exact b1 p hp
  have N' : News h₀ L s.heap ((dx, dictOf (optL H kt v t tb) 21) :: (x, instObj 82 dx) :: (pre ++ post)) := news_sub N fun p hp => by
    rcases List.mem_cons.mp hp with rfl | hp
    · simp
    · rcases List.mem_cons.mp hp with rfl | hp
      · exact hx
      · rcases List.mem_append.mp hp with hp | hp <;> simp [hp]
  exact putH_ok off B F X N' T hk hdp hu (fun h' tk' F' N' => ret h' tk' F' (news_sub N' fun p hp => by
    rcases List.mem_append.mp hp with hp | hp
    · simp [hp]
    · rcases List.mem_cons.mp hp with rfl | hp <;> simp_all))
section
variable {prog : Program} {w : World} {A : Around} {E : Value → Shared → Prop} {s : Shared} {h₀ : Heap} {L D tb : Addr} {m : Str → Option Value} {news news' : List (Addr × Obj)} {v : Nat → Int} {t : Nat → Tok} {n : Nat}
theorem want_set_eq {x : Int} {u : Tok} (p : Nat) (h : p < 17) : (wantL v t tb).set p (.int x u) = wantL (updN v p x) (updN t p u) tb := by
  have := lt17 p h
  rcases this with rfl | rfl | rfl | rfl | rfl | rfl | rfl | rfl | rfl | rfl | rfl | rfl | rfl | rfl | rfl | rfl | rfl <;> rfl
theorem want_setAny {val : Value} {k : Int} {tk : Tok} {ws : List Value} {Q : Unit → Shared → Prop} (F : Fr h₀ L s.heap m) (N : News h₀ L s.heap news) (U : Upd D (W.listOf (wantL v t tb).toArray n) (W.listOf ws.toArray n) news news')
    (h0 : 0 ≤ k) (h1 : k < 21) (e : (wantL v t tb).set k.toNat val = ws) (h : ∀ h', Fr h₀ L h' m → News h₀ L h' news' → Q () { s with heap := h' }) :
    wpAny (model prog w) A (setItem (.ref D) (.int k tk) val) Q E s := by
  obtain ⟨pre, post, rfl, rfl, a, b⟩ := U.split
  have z := N (D, W.listOf (wantL v t tb).toArray n) (List.mem_append.mpr (.inr (.head _)))
  have hj : k.toNat < (wantL v t tb).length := by
    show k.toNat < 21
    omega
  refine ki_setAt z.1 h0 (by omega) (by rw [List.size_toArray]; show k < ((21 : Nat) : Int); omega) (h _ (F.change (Heap.SameBut.update ..) z.2.1 z.2.2) (ki_turn _ N a b ?_ ?_))
  · show (wantL v t tb).toArray.setIfInBounds k.toNat val = ws.toArray
    rw [← e]
    apply Array.toList_inj.mp
    simp
  · rw [← e]
    simp
theorem want_set {x k : Int} {tk u : Tok} {Q : Unit → Shared → Prop} (F : Fr h₀ L s.heap m) (N : News h₀ L s.heap news) (U : Upd D (W.listOf (wantL v t tb).toArray n) (W.listOf (wantL (updN v k.toNat x) (updN t k.toNat u) tb).toArray n) news news')
    (h0 : 0 ≤ k) (h1 : k < 17) (h : ∀ h', Fr h₀ L h' m → News h₀ L h' news' → Q () { s with heap := h' }) :
    wpAny (model prog w) A (setItem (.ref D) (.int k tk) (.int x u)) Q E s := want_setAny F N U h0 (by omega) (want_set_eq _ (by omega)) h
theorem want_setH {tn : Addr} {tk : Tok} {Q : Unit → Shared → Prop} (F : Fr h₀ L s.heap m) (N : News h₀ L s.heap news) (U : Upd D (W.listOf (wantL v t tb).toArray n) (W.listOf (wantL v t tn).toArray n) news news')
    (h : ∀ h', Fr h₀ L h' m → News h₀ L h' news' → Q () { s with heap := h' }) :
    wpAny (model prog w) A (setItem (.ref D) (.int 20 tk) (.ref tn)) Q E s := want_setAny F N U (by decide) (by decide) rfl h
end
theorem updN_back {v : Nat → Int} {p : Nat} {a : Int} : updN (updN v p a) p (v p) = v := by
  funext i
  unfold updN
  by_cases h : i = p
  · rw [if_pos h, h]
  · rw [if_neg h, if_neg h]
theorem updN_bound {v : Nat → Int} {p : Nat} {a : Int} (h : ∀ p, -10 ^ 30 < v p ∧ v p < 10 ^ 30) (h1 : -10 ^ 30 < a) (h2 : a < 10 ^ 30) : ∀ q, -10 ^ 30 < updN v p a q ∧ updN v p a q < 10 ^ 30 := by
  intro q
  unfold updN
  by_cases e : q = p
  · rw [if_pos e]; exact ⟨h1, h2⟩
  · rw [if_neg e]; exact h q
section
variable {v : Nat → Int} {hs : List Int} {hvs hvsw : List Value}
theorem LOk.may (h : LOk v hs hvs hvsw) : May v hs := h.1
theorem LOk.bd (h : LOk v hs hvs hvsw) : ∀ p, -10 ^ 30 < v p ∧ v p < 10 ^ 30 := h.2.1
theorem LOk.hb (h : LOk v hs hvs hvsw) : ∀ x ∈ hs, -10 ^ 30 < x ∧ x < 10 ^ 30 := h.2.2.1
theorem LOk.len (h : LOk v hs hvs hvsw) : hs.length ≤ 8 := h.2.2.2.1
theorem LOk.i1 (h : LOk v hs hvs hvsw) : IntsAre hvs hs := h.2.2.2.2.1
theorem LOk.i2 (h : LOk v hs hvs hvsw) : IntsAre hvsw hs := h.2.2.2.2.2
end
end Mine
namespace Mine
open PySem.Calls
section
variable {prog : Program} {w : World} {A : Around} {E : Value → Shared → Prop} {s : Shared} {h₀ : Heap} {L l I lw tbw tb dx : Addr} {m : Str → Option Value}
theorem tuple_new {ys : List Value} {oI ow ob1 ob2 od : Obj} {o1 o2 o3 o4 o5 o6 co : Addr × Obj} {Q : Value → Shared → Prop} (F : Fr h₀ L s.heap m)
    (N : News h₀ L s.heap [(l, LCg.lst ys), (I, oI), (lw, ow), (tbw, ob1), (tb, ob2), (dx, od), o1, o2, o3, o4, o5, o6, co]) (hz : ys.length ≤ 8)
    (h : ∀ D h', Fr h₀ L h' m → News h₀ L h' [(D, tupO ys.toArray 0), (I, oI), (lw, ow), (tbw, ob1), (tb, ob2), (dx, od), o1, o2, o3, o4, o5, o6, co] → Apart D I → Apart D lw → Apart D dx → Apart D co.1 → Q (.ref D) { s with heap := h' }) :
    wpAny (model prog w) A (call (.type "tuple") [.ref l]) Q E s := by
  have hl : s.heap.IsList l ys.toArray := ⟨_, (N _ (.head _)).1, rfl, _, rfl⟩
  refine call_tuple_list hl (fun h' hk => ?_) (by rw [sizeLine_eq, List.size_toArray]; omega)
  have F' : Fr h₀ L h' m := F.keeps hk
  have N' : News h₀ L h' [(l, LCg.lst ys), (I, oI), (lw, ow), (tbw, ob1), (tb, ob2), (dx, od), o1, o2, o3, o4, o5, o6, co] := fun p hp => ⟨hk _ _ (N p hp).1, (N p hp).2⟩
  have lt : ∀ p ∈ [(l, LCg.lst ys), (I, oI), (lw, ow), (tbw, ob1), (tb, ob2), (dx, od), o1, o2, o3, o4, o5, o6, co], Apart h'.objs.size p.1 := fun p hp => ⟨Ne.symm (Nat.ne_of_lt (Heap.lt_size (N' p hp).1))⟩
  refine h _ _ (F'.push _) (news_sub (N'.push F' _) fun p hp => ?_) (lt (I, oI) (by simp)) (lt (lw, ow) (by simp)) (lt (dx, od) (by simp)) (lt co (by simp))
  rcases List.mem_cons.mp hp with rfl | hp
  · exact .head _
  · exact .tail _ (.tail _ hp)
end
theorem h17_b {f : Int → Int} {n : Nat} : ∀ x ∈ List.map (fun k' => (f k').fmod 6) (rangeKs 0 n), -10 ^ 30 < x ∧ x < 10 ^ 30 := fun x hx => by
  obtain ⟨k, _, rfl⟩ := List.mem_map.mp hx
  have h := fm_bound (f k) 6 (by decide)
  omega
theorem h17_l {g : Int → Int} {e : Int} (h : e < 4) : (List.map g (rangeKs 0 (e - 0).toNat)).length ≤ 8 := by
  rw [List.length_map, rangeKs_length]; omega
theorem lp_end2 {h₀ : Heap} {x9 : Str} {Q : Flow → Shared → Prop} {s₁ : Shared} {src : List (Addr × Obj)} {L I : Addr} {oI : Obj} {c dx lw x l : Addr} {H : Nat → Int} {kt : Nat → Tok} {vs : List Value} {nn : Nat} {o2 o3 o4 o5 : Addr × Obj} {m₀ : Str → Option Value} {v : Nat → Int} {t tw : Nat → Tok} {tb tbw : Addr} {hvs hvsw : List Value} {hs : List Int} {k1 k2 nw : Nat} {co : Obj} {cv : Option Value} {h' : Heap} {tk : Nat} {m' : Str → Option Value}
    (F : Fr h₀ L h' m') (N : News h₀ L h' src) (m1 : (lw, W.listOf (wantL v tw tbw).toArray nw) ∈ src) (m2 : (dx, dictOf (optL H kt v t tb) 21) ∈ src) (m3 : (tbw, tupO hvsw.toArray k2) ∈ src) (m4 : (tb, tupO hvs.toArray k1) ∈ src) (m5 : (I, oI) ∈ src) (m6 : (x, instObj 82 dx) ∈ src) (m7 : o2 ∈ src) (m8 : o3 ∈ src) (m9 : o4 ∈ src) (ma : (l, W.listOf vs.toArray nn) ∈ src) (mb : o5 ∈ src) (mc : (c, co) ∈ src)
    (h4 : co.data = .cell cv) (e1 : Apart tb I) (e2 : Apart tbw I) (e3 : Apart tb c) (e4 : Apart tb dx) (e5 : Apart tb lw) (e6 : Apart tbw c) (e7 : Apart tbw dx) (e8 : Apart tbw lw)
    (h1 : LOk v hs hvs hvsw) (hm : ∀ z, (x9 :: [Str.ofString "place", Str.ofString "value", Str.ofString "old"]).contains z = false → m' z = m₀ z) :
    LPost h₀ L I oI c dx lw x l H kt vs nn o2 o3 o4 o5 x9 m₀ s₁ Q .next { s₁ with heap := h', toks := tk } :=
  lp_end F (fun p hp => by
    simp only [List.mem_cons, List.not_mem_nil, or_false] at hp
    rcases hp with rfl | rfl | rfl | rfl | rfl | rfl | rfl | rfl | rfl | rfl | rfl | rfl <;> exact N _ (by assumption)) ⟨e1.ne, e2.ne⟩ hm h1 ⟨e3.ne, e4.ne, e5.ne⟩ ⟨e6.ne, e7.ne, e8.ne⟩ h4
theorem lp_names {z : Str} (hz : (Str.ofString "n" :: [Str.ofString "place", Str.ofString "value", Str.ofString "old"]).contains z = false) : z ≠ Str.ofString "n" ∧ z ≠ Str.ofString "place" ∧ z ≠ Str.ofString "value" ∧ z ≠ Str.ofString "old" ∧ ¬ [Str.ofString "place", Str.ofString "value", Str.ofString "old"].contains z = true := by
  have hz' := hz
  simp only [List.contains_cons, List.contains_nil, Bool.or_false, Bool.or_eq_false_iff, beq_eq_false_iff_ne] at hz'
  refine ⟨hz'.1, hz'.2.1, hz'.2.2.1, hz'.2.2.2, ?_⟩
  simp [hz']
theorem hm_turn {z : Str} {a b c e : Option Value} {u m₀ : Str → Option Value} (hz : (Str.ofString "n" :: [Str.ofString "place", Str.ofString "value", Str.ofString "old"]).contains z = false) :
    (if z = Str.ofString "old" then a else if z = Str.ofString "value" then b else if z = Str.ofString "place" then c else if z = Str.ofString "n" then e else if [Str.ofString "place", Str.ofString "value", Str.ofString "old"].contains z = true then u z else m₀ z) = m₀ z := by
  obtain ⟨h1, h2, h3, h4, h5⟩ := lp_names hz
  rw [if_neg h4, if_neg h3, if_neg h2, if_neg h1, if_neg h5]
theorem hm_turn17 {z : Str} {a b c d e : Option Value} {u m₀ : Str → Option Value} (hz : (Str.ofString "n" :: [Str.ofString "place", Str.ofString "value", Str.ofString "old"]).contains z = false) :
    (if z = Str.ofString "old" then a else if z = Str.ofString "value" then b else if z = Str.ofString "place" then c else if z = Str.ofString "place" then d else if z = Str.ofString "n" then e else if [Str.ofString "place", Str.ofString "value", Str.ofString "old"].contains z = true then u z else m₀ z) = m₀ z := by
  obtain ⟨h1, h2, h3, h4, h5⟩ := lp_names hz
  rw [if_neg h4, if_neg h3, if_neg h2, if_neg h2, if_neg h1, if_neg h5]
section
variable {v : Nat → Int} {hs hs' : List Int} {hvs hvsw ys : List Value} {p : Nat} {a : Int}
theorem LOk.new17 (h : LOk v hs hvs hvsw) (m : May v hs') (hb : ∀ x ∈ hs', -10 ^ 30 < x ∧ x < 10 ^ 30) (hl : hs'.length ≤ 8) (hi : IntsAre ys hs') : LOk v hs' ys ys := ⟨m, h.bd, hb, hl, hi, hi⟩
theorem LOk.back17 (h : LOk v hs hvs hvsw) : LOk v hs hvsw hvsw := ⟨h.may, h.bd, h.hb, h.len, h.i2, h.i2⟩
theorem LOk.new (h : LOk v hs hvs hvsw) (m : May (updN v p a) hs) (h1 : -10 ^ 30 < a) (h2 : a < 10 ^ 30) : LOk (updN v p a) hs hvs hvsw := ⟨m, updN_bound h.bd h1 h2, h.hb, h.len, h.i1, h.i2⟩
theorem LOk.back (h : LOk v hs hvs hvsw) : LOk (updN (updN v p a) p (v p)) hs hvs hvsw := by rw [updN_back]; exact h
end
theorem tiny_ok2 {w : World} {mg mb : Str → Option Value} {mean : ExcName → Option Value}
   {dp un : Nat} {gd : Option (List Code)} {cn : Str} {cs : Scope} {a : Addr} {ccd : Value} {cl : List (Str × Addr)} {outer : List Env} {A₀ : Around} {base h₀ : Heap} {L : Addr} {m : Str → Option Value} {news : List (Addr × Obj)} {s : Shared} {Q E : Value → Shared → Prop}
   {H : Nat → Int} {kt : Nat → Tok} {v : Nat → Int} {t : Nat → Tok} {x dx tb : Addr} {news' : (Nat → Tok) → List (Addr × Obj)}
   (B : Below A₀ base outer h₀) (F : Fr h₀ L s.heap m) (X : (hd.heap_39 w.params).In h₀) (N : News h₀ L s.heap news) (T : Top hd.view_39 (looseW hd.view_39 []) mean mg mb h₀) (hk : cs.kind = .function) (hdp : dp + 1 < recursionLimit) (hu : un + 8 < cLine)
   (U : ∀ t', Upd dx (dictOf (optL H kt v t tb) 21) (dictOf (optL H kt (small v) t' tb) 21) news (news' t')) (hx : (x, instObj 82 dx) ∈ news) (hxd : x ≠ dx)
   (ret : ∀ t' h' tk', Fr h₀ L h' m → News h₀ L h' (news' t') → Q (.ref x) { s with heap := h', toks := tk' }) :
   wpAny (model Challenge.rw_pf0283_01.row.prog w) (ktrTop dp un gd cn cs L a ccd cl outer) (call (.ref 79) [.ref x]) Q E s := by
  obtain ⟨pre, post, e1, _, a1, b1⟩ := (U t).split
  have put : ∀ p ∈ news, p.1 ≠ dx → p ∈ pre ++ post := fun p hp hne => by
    rw [e1] at hp
    rcases List.mem_append.mp hp with h | h
    · exact List.mem_append_left _ h
    · rcases List.mem_cons.mp h with h | h
      · exact absurd (congrArg Prod.fst h) hne
      · exact List.mem_append_right _ h
  have off : ∀ p ∈ (x, instObj 82 dx) :: (pre ++ post), p.1 ≠ dx := fun p hp => by
    rcases List.mem_cons.mp hp with rfl | hp
    · exact hxd
    · rcases List.mem_append.mp hp with hp | hp
      · exact a1 p hp
      · exact b1 p hp
  have N' : News h₀ L s.heap ((dx, dictOf (optL H kt v t tb) 21) :: (x, instObj 82 dx) :: (pre ++ post)) := news_sub N fun p hp => by
    rcases List.mem_cons.mp hp with rfl | hp
    · rw [e1]; simp
    · rcases List.mem_cons.mp hp with rfl | hp
      · exact hx
      · rw [e1]; rcases List.mem_append.mp hp with hp | hp <;> simp [hp]
  refine tiny_ok off B F X N' T hk hdp hu (fun t' h' tk' F' N2 => ret t' h' tk' F' ?_)
  obtain ⟨pre', post', e2, e3, a2, b2⟩ := (U t').split
  rw [e3]
  refine news_sub N2 fun p hp => ?_
  rcases List.mem_append.mp hp with hp | hp
  · exact .tail _ (.tail _ (put p (by rw [e2]; exact List.mem_append_left _ hp) (a2 p hp)))
  · rcases List.mem_cons.mp hp with rfl | hp
    · exact .head _
    · exact .tail _ (.tail _ (put p (by rw [e2]; exact List.mem_append_right _ (.tail _ hp)) (b2 p hp)))
theorem small_ok2 {w : World} {mg mb : Str → Option Value} {mean : ExcName → Option Value}
   {dp un : Nat} {gd : Option (List Code)} {cn : Str} {cs : Scope} {a : Addr} {ccd : Value} {cl : List (Str × Addr)} {outer : List Env} {A₀ : Around} {base h₀ : Heap} {L : Addr} {m : Str → Option Value} {news : List (Addr × Obj)} {s : Shared} {Q E : Value → Shared → Prop}
   {v : Nat → Int} {tw : Nat → Tok} {lw tbw : Addr} {n : Nat}
   (B : Below A₀ base outer h₀) (F : Fr h₀ L s.heap m) (X : (hd.heap_39 w.params).In h₀) (N : News h₀ L s.heap news) (T : Top hd.view_39 (looseW hd.view_39 []) mean mg mb h₀) (hk : cs.kind = .function) (hdp : dp + 1 < recursionLimit) (hu : un + 8 < cLine) (hx : (lw, W.listOf (wantL v tw tbw).toArray n) ∈ news)
   (ret : ∀ l t' n' h' tk', (∀ p ∈ news, p.1 < l) → Fr h₀ L h' m → News h₀ L h' ((l, W.listOf (wantL (small v) t' tbw).toArray n') :: news) → Q (.ref l) { s with heap := h', toks := tk' }) :
   wpAny (model Challenge.rw_pf0283_01.row.prog w) (ktrTop dp un gd cn cs L a ccd cl outer) (call (.ref 114) [.ref lw]) Q E s := by
  have N' : News h₀ L s.heap ((lw, W.listOf (wantL v tw tbw).toArray n) :: news) := news_sub N fun p hp => by
    rcases List.mem_cons.mp hp with rfl | hp
    · exact hx
    · exact hp
  refine small_ok B F X N' T hk hdp hu (fun l t' n' h' tk' hl F' N2 => ret l t' n' h' tk' (fun p hp => hl p (.tail _ hp)) F' (news_sub N2 fun p hp => ?_))
  rcases List.mem_cons.mp hp with rfl | hp
  · exact .head _
  · exact .tail _ (.tail _ hp)
theorem hm_tiny {m : Str → Option Value} {va vb : Value} (z : Str) : (if z = Str.ofString "want" then some va else if z = Str.ofString "back" then some vb else m z) = kstB m [(Str.ofString "want", va), (Str.ofString "back", vb)] z := rfl
theorem hm_same {m : Str → Option Value} {va vb : Value} (z : Str) : (if z = Str.ofString "back" then some vb else if z = Str.ofString "want" then some va else m z) = kstB (fun y => if y = Str.ofString "back" then some vb else if y = Str.ofString "want" then some va else m y) [(Str.ofString "want", va), (Str.ofString "back", vb)] z := by
  have hne : Str.ofString "want" ≠ Str.ofString "back" := by decide
  by_cases h1 : z = Str.ofString "want"
  · subst h1; simp [kstB, hne]
  · by_cases h2 : z = Str.ofString "back"
    · subst h2; simp [kstB, Ne.symm hne]
    · simp [kstB, h1, h2]
end Mine
namespace Mine
theorem fresh_C13 : True := by
  w_top off
  trivial
open PySem.Calls
inductive StopHere (P : Prop) : Prop | mk (h : P)
theorem StopHere.of {P : Prop} (h : StopHere P) : P := h.1
section
variable {M : Model} {A : Around} {E : Value → Shared → Prop} {s : Shared} {h₀ : Heap} {L : Addr} {m : Str → Option Value} {t : Sem Flow} {Q : Flow → Shared → Prop}
def CutPost {σ : Type} (h₀ : Heap) (L : Addr) (m : Str → Option Value) (ups : σ → List (Str × Value)) (Led : σ → List (Addr × Obj)) (P : σ → Prop) (s : Shared) (f : Flow) (s' : Shared) : Prop :=
  f = .next ∧ ∃ c h' tk' m', s' = { s with heap := h', toks := tk' } ∧ P c ∧ Fr h₀ L h' m' ∧ (∀ z, m' z = kstB m (ups c) z) ∧ News h₀ L h' (Led c)
theorem cut_end {σ : Type} {ups : σ → List (Str × Value)} {Led : σ → List (Addr × Obj)} {P : σ → Prop} (c : σ) {h' : Heap} {tk' : Nat} {m' : Str → Option Value} (hP : P c) (F : Fr h₀ L h' m') (hm : ∀ z, m' z = kstB m (ups c) z) (N : News h₀ L h' (Led c)) :
    CutPost h₀ L m ups Led P s .next { s with heap := h', toks := tk' } := ⟨rfl, c, h', tk', m', rfl, hP, F, hm, N⟩
theorem stmt_cut {σ : Type} (ups : σ → List (Str × Value)) (Led : σ → List (Addr × Obj)) (P : σ → Prop) (_F : Fr h₀ L s.heap m)
    (h1 : wpAny M A t (CutPost h₀ L m ups Led P s) E s)
    (h2 : ∀ (c : σ) (h' : Heap) (tk' : Nat), P c → Fr h₀ L h' (kstB m (ups c)) → News h₀ L h' (Led c) → Q .next { s with heap := h', toks := tk' }) : wpAny M A t Q E s :=
  wpAny_mono h1 (fun f s' ⟨hf, c, h', tk', m', e, hP, F, hm, N⟩ => by
    subst hf e
    have em : m' = kstB m (ups c) := funext hm
    subst em
    exact h2 c h' tk' hP F N) fun _ _ e => e
end
structure SN where
  D : Addr
  vs : List Value
  ns : List Int
  n : Nat
def SN.Ok (C : SN) (lo : Addr) : Prop := IntsAre C.vs C.ns ∧ C.ns ≠ [] ∧ C.ns.length ≤ 8 ∧ (∀ x ∈ C.ns, 0 ≤ x ∧ x < 1000003) ∧ @Ne Nat lo C.D
theorem cut_nums {M : Model} {A : Around} {E : Value → Shared → Prop} {s : Shared} {h₀ : Heap} {L : Addr} {m : Str → Option Value} {t : Sem Flow} {Q : Flow → Shared → Prop} {d1 d2 cell : Addr × Obj} (F : Fr h₀ L s.heap m) (_N : News h₀ L s.heap [d1, d2, cell])
    (h1 : wpAny M A t (CutPost h₀ L m (fun C : SN => [(Str.ofString "nums", Value.ref C.D)]) (fun C : SN => [(C.D, W.listOf C.vs.toArray C.n), cell]) (fun C : SN => C.Ok cell.1) s) E s)
    (h2 : ∀ (D : Addr) (vs : List Value) (ns : List Int) (n : Nat) (h' : Heap) (tk' : Nat), SN.Ok ⟨D, vs, ns, n⟩ cell.1 → Fr h₀ L h' (kstB m [(Str.ofString "nums", Value.ref D)]) → News h₀ L h' [(D, W.listOf vs.toArray n), cell] → Q .next { s with heap := h', toks := tk' }) : wpAny M A t Q E s := stmt_cut _ _ _ F h1 fun ⟨D, vs, ns, n⟩ => h2 D vs ns n
theorem take_ok {ns : List Int} (h : ¬ ((((ns.take 8).map (fun k => k.fmod 1000003)).length : Nat) : Int) = 0) : ((ns.take 8).map (fun k => k.fmod 1000003)) ≠ [] ∧ ((ns.take 8).map (fun k => k.fmod 1000003)).length ≤ 8 ∧ ∀ x ∈ ((ns.take 8).map (fun k => k.fmod 1000003)), 0 ≤ x ∧ x < 1000003 := by
  refine ⟨fun e => h (by rw [e]; rfl), ?_, fun x hx => ?_⟩
  · rw [List.length_map, List.length_take]; omega
  · obtain ⟨k, _, rfl⟩ := List.mem_map.mp hx
    exact fm_bound k 1000003 (by decide)
theorem head_item {prog : Program} {w : World} {A : Around} {E : Value → Shared → Prop} {s : Shared} {h₀ : Heap} {L lo : Addr} {news : List (Addr × Obj)} {value slice : PySem.Expr} {u : Tok} {Q : Value → Shared → Prop} {D : Addr} {vs : List Value} {ns : List Int} {n : Nat}
    (N : News h₀ L s.heap news) (hm : (D, W.listOf vs.toArray n) ∈ news) (ok : SN.Ok ⟨D, vs, ns, n⟩ lo) (h : ∀ t, Q (.int (ns.headD 0) t) s)
    (hs : subscripted slice false (.ref D) (.int 0 u) = operate [.ref D, .int 0 u] (getItem (.ref D) (.int 0 u)) := by with_unfolding_all rfl) :
    wpAny (model prog w) A (subscriptTail value slice (.ref D) (.int 0 u)) Q E s := by
  obtain ⟨hi, hne, _⟩ := ok
  obtain ⟨x, r, e⟩ := List.exists_cons_of_ne_nil hne
  obtain ⟨t, ht⟩ := hi.get 0 x (by rw [e]; rfl)
  refine item_litK (News.isList N hm) (by decide) (by decide) ht ?_ hs
  have e1 : ns.headD 0 = x := by (have e' : ns = x :: r := e); rw [e']; rfl
  rw [← e1]
  exact h t
theorem fd18 {n : Int} (h0 : 0 ≤ n) (h1 : n < 1000003) : 0 ≤ n.fdiv 18 ∧ n.fdiv 18 < 1000003 := by
  rw [Int.fdiv_eq_ediv_of_nonneg n (by decide)]; omega
theorem j_le {k e : Int} (h1 : k < 0 + ((e - 0).toNat : Int)) (h2 : e < 4) : k ≤ 1000000 := by omega
theorem j_le3 {k e : Int} (h1 : k < 0 + ((e - 0).toNat : Int)) (h2 : e < 4) : k ≤ 3 := by omega
theorem six_ok : (6 : Int).natAbs < 2 ^ 64 := by decide
theorem pow6_ne (n : Nat) : (6 : Int) ^ n ≠ 0 := by
  have h : (6 : Nat) ^ n ≠ 0 := Nat.ne_of_gt (Nat.pow_pos (by decide))
  intro e
  exact h (by exact_mod_cast e)
theorem pow6_py {a k : Int} (h : k ≤ 3) : Builtin.divisionGoesByPylong a ((6 : Int) ^ k.toNat) = false := by
  refine PyProof.noPylong_small ?_
  have h3 : k.toNat ≤ 3 := by omega
  have e : ((6 : Int) ^ k.toNat).natAbs = 6 ^ k.toNat := by rw [Int.natAbs_pow]; rfl
  rw [e]
  exact Nat.lt_of_le_of_lt (Nat.pow_le_pow_right (by decide) h3) (by decide)
theorem tl_bound {l : List Int} {a b : Int} (h : ∀ x ∈ l, a < x ∧ x < b) (h0 : a < 0 ∧ 0 < b) (p : Nat) : a < tl l 0 p ∧ tl l 0 p < b := by
  unfold tl
  rw [List.getD_eq_getElem?_getD]
  cases e : l[p]? with
  | none => exact h0
  | some x => exact h x (List.mem_of_getElem? e)
theorem v0_bound : ∀ p, -10 ^ 30 < v0 p ∧ v0 p < 10 ^ 30 := tl_bound (by decide) (by decide)
theorem small_bound {v : Nat → Int} (h : ∀ p, -10 ^ 30 < v p ∧ v p < 10 ^ 30) : ∀ p, -10 ^ 30 < small v p ∧ small v p < 10 ^ 30 := by
  refine tl_bound (fun x hx => ?_) (by decide)
  simp only [List.mem_cons, List.not_mem_nil, or_false] at hx
  have h14 := h 14; have h15 := h 15; have h16 := h 16
  rcases hx with rfl | rfl | rfl | rfl | rfl | rfl | rfl | rfl | rfl | rfl | rfl | rfl | rfl | rfl | rfl | rfl | rfl <;> first | assumption | omega
theorem hs0_bound : ∀ x ∈ hs0, -10 ^ 30 < x ∧ x < 10 ^ 30 := by decide
theorem may0 : May v0 hs0 := may_facts.mpr ⟨by decide, by decide, by decide, fun x hx => by
  have e : ∀ x ∈ hs0, 1 ≤ x ∧ x ≤ 12 := by decide
  exact e x hx⟩
theorem may_small0 : May (small v0) hs0 := may_facts.mpr ⟨by decide, by decide, by decide, fun x hx => by
  have e : ∀ x ∈ hs0, 1 ≤ x ∧ x ≤ 4 := by decide
  exact e x hx⟩
theorem news_dup5 {h₀ h : Heap} {L : Addr} {news : List (Addr × Obj)} {p q r u z : Addr × Obj} (N : News h₀ L h news) (hp : p ∈ news) (hq : q ∈ news) (hr : r ∈ news) (hu : u ∈ news) (hz : z ∈ news) : News h₀ L h (p :: q :: r :: u :: z :: news) := fun y hy => by
  rcases List.mem_cons.mp hy with rfl | hy
  · exact N _ hp
  rcases List.mem_cons.mp hy with rfl | hy
  · exact N _ hq
  · exact news_dup3 N hr hu hz y hy
theorem news_drop5 {h₀ h : Heap} {L : Addr} {news : List (Addr × Obj)} {p q r u z : Addr × Obj} (N : News h₀ L h (p :: q :: r :: u :: z :: news)) : News h₀ L h news := fun y hy => N y (.tail _ (.tail _ (.tail _ (.tail _ (.tail _ hy)))))
structure S2 where
  v : Nat → Int
  t : Nat → Tok
  lw : Addr
  tw : Nat → Tok
  n : Nat
def S2.Ok (c : S2) (lim : Addr) : Prop := May c.v hs0 ∧ (∀ p, -10 ^ 30 < c.v p ∧ c.v p < 10 ^ 30) ∧ @LT.lt Nat _ lim c.lw
theorem S2.Ok.bd {v : Nat → Int} {t : Nat → Tok} {lw : Addr} {tw : Nat → Tok} {n : Nat} {lim : Addr} (h : S2.Ok ⟨v, t, lw, tw, n⟩ lim) : ∀ p, -10 ^ 30 < v p ∧ v p < 10 ^ 30 := h.2.1
theorem hs0_len : hs0.length ≤ 8 := by decide
theorem cut_tiny {M : Model} {A : Around} {E : Value → Shared → Prop} {s : Shared} {h₀ : Heap} {L : Addr} {m : Str → Option Value} {t : Sem Flow} {Q : Flow → Shared → Prop} {lw tbw tb1 x1 dx1 : Addr} {v : Nat → Int} {tt tw : Nat → Tok} {H : Nat → Int} {kt : Nat → Tok} {n k2 : Nat} {hvs2 : List Value} {o1 o2 o3 o4 o6 o7 : Addr × Obj} (F : Fr h₀ L s.heap m)
    (_N : News h₀ L s.heap [(lw, W.listOf (wantL v tw tbw).toArray n), (tbw, tupO hvs2.toArray k2), o1, o2, o3, o4, (x1, instObj 82 dx1), (dx1, dictOf (optL H kt v tt tb1) 21), o6, o7])
    (h1 : wpAny M A t (CutPost h₀ L m (fun C : S2 => [(Str.ofString "want", Value.ref C.lw), (Str.ofString "back", Value.ref x1)]) (fun C : S2 => [(C.lw, W.listOf (wantL C.v C.tw tbw).toArray C.n), (tbw, tupO hvs2.toArray k2), o1, o2, o3, o4, (x1, instObj 82 dx1), (dx1, dictOf (optL H kt C.v C.t tb1) 21), o6, o7]) (fun C : S2 => C.Ok tbw) s) E s)
    (h2 : ∀ (cv : Nat → Int) (ct : Nat → Tok) (clw : Addr) (ctw : Nat → Tok) (cn : Nat) (h' : Heap) (tk' : Nat), S2.Ok ⟨cv, ct, clw, ctw, cn⟩ tbw → Fr h₀ L h' (kstB m [(Str.ofString "want", Value.ref clw), (Str.ofString "back", Value.ref x1)]) → News h₀ L h' [(clw, W.listOf (wantL cv ctw tbw).toArray cn), (tbw, tupO hvs2.toArray k2), o1, o2, o3, o4, (x1, instObj 82 dx1), (dx1, dictOf (optL H kt cv ct tb1) 21), o6, o7] → Q .next { s with heap := h', toks := tk' }) : wpAny M A t Q E s := stmt_cut _ _ _ F h1 fun ⟨cv, ct, clw, ctw, cn⟩ => h2 cv ct clw ctw cn
local macro_rules | `(tactic| walk_at "execs cons") => `(tactic| (k_here; (with_reducible refine execs_one ?_)))
local macro_rules | `(tactic| walk_at "call ref") => `(tactic| (k_here; (with_reducible show wpAny _ _ (call (Value.ref 82) _) _ _ _); k_dflt (refine' cc init_ok ?k (fun x9 dx9 tb9 H9 kt9 t9 hvs9 k9 h9 tk9 a9 b9 c9 i9 F9 N9 => ?_); (case k => walk_at "std")); (k_lt a9); (k_lt2 b9); (k_lt2 c9); walk_at "tidy"))
local macro_rules | `(tactic| walk_at "call ref") => `(tactic| (k_here; (with_reducible show wpAny _ _ (call (Value.ref 107) _) _ _ _); k_dflt (refine' cc first_ok ?k (fun lw9 tb9 t9 hvs9 k9 n9 h9 tk9 a9 b9 i9 F9 N9 => ?_); (case k => walk_at "std")); (k_lt a9); (k_lt2 b9); walk_at "tidy"))
local macro_rules | `(tactic| walk_at "z2") => `(tactic| first | assumption | exact LOk.i2 (by assumption))
local macro_rules | `(tactic| walk_at "z3") => `(tactic| first | exact hs0_len | assumption | exact LOk.len (by assumption) | exact h17_l (by assumption))
local macro_rules | `(tactic| walk_at "z4") => `(tactic| first | exact v0_bound | exact S2.Ok.bd (by assumption) | assumption | exact LOk.bd (by assumption) | exact updN_bound (small_bound (LOk.bd (by assumption))) (by decide) (by decide) | exact updN_bound (LOk.bd (by assumption)) (by assumption) (by assumption) | (rw [updN_back]; exact LOk.bd (by assumption)))
local macro_rules | `(tactic| walk_at "zz") => `(tactic| (refine ⟨?_, ?_, ?_, ?_, ?_⟩; (first | assumption | exact LOk.i1 (by assumption) | exact LOk.i2 (by assumption)); walk_at "z2"; walk_at "z3"; walk_at "z4"; (first | exact hs0_bound | assumption | exact LOk.hb (by assumption) | exact h17_b)))
theorem cz {a b c d e P : Prop} (q : a → b → c → d → e → P) (z : a ∧ b ∧ c ∧ d ∧ e) : P := q z.1 z.2.1 z.2.2.1 z.2.2.2.1 z.2.2.2.2
local macro_rules | `(tactic| walk_at "call ref") => `(tactic| (k_here; (with_reducible show wpAny _ _ (call (Value.ref 140) _) _ _ _); k_dflt (first
  | (refine' cc (cz checked_ok ?z) ?k (fun h9 tk9 F9 N9 => ?_); (case k => (walk_at "k3"; exact news_dup5 (by k_asm) (by k_mem) (by k_mem) (by k_mem) (by k_mem) (by k_mem); walk_at "ends")); (case z => walk_at "zz"))
  | (refine' cc (cz (checked_ok (t := tl [_, _, _, _, _, _, _, _, _, _, _, _, _, _, _, _, _] 0)) ?z) ?k (fun h9 tk9 F9 N9 => ?_); (case k => (walk_at "k3"; (refine' news_dup5 ?y1 ?y2 ?y3 ?y4 ?y5 ?y6; (case y1 => k_asm); (case y2 => k_mem); (case y5 => k_mem); (case y3 => k_mem); (case y4 => k_mem); (case y6 => k_mem)); walk_at "ends")); (case z => walk_at "zz"))); (replace N9 := news_drop5 N9); walk_at "tidy"))
local macro_rules | `(tactic| walk_at "subscriptTail") => `(tactic| (k_here; (with_reducible show wpAny _ _ (subscriptTail _ _ _ (Value.int 0 _)) _ _ _); with_unfolding_all (refine' head_item ?k1 ?k2 ?k3 (fun t9 => ?_) ?k6; (case k1 => k_asm); (case k2 => k_mem); (case k3 => assumption); (case k6 => with_unfolding_all rfl))))
local macro_rules | `(tactic| walk_at "exec For Name Subscript cons nil") => `(tactic| (k_here; (rename Fr _ _ _ _ => lF'); (with_unfolding_all refine' For_invVF lF' ?k1 ?k2 ?_; (case k1 => exact rfl); (case k2 => exact rfl); k_whole)))
local macro_rules | `(tactic| walk_at "pyIter ref") => `(tactic| (k_here; (with_reducible show wpAny _ _ (pyIter (Value.ref _)) (fun it s₂ => LoopAtV _ _ _ _ _ _ _ _ _ it s₂) _ _); refine StopHere.of ?_))
local macro_rules | `(tactic| walk_at "call ref") => `(tactic| (k_here; (with_reducible show wpAny _ _ (call (Value.ref 147) _) _ _ _); k_dflt (refine' cc (value_ok ?a1 ?a2 ?a3 ?a4) ?k (fun v9 t9 h9 tk9 a9 b9 F9 N9 => ?_); (case a1 => omega); (case a2 => omega); (case a3 => omega); (case a4 => omega); (case k => walk_at "std")); walk_at "tidy"))
local macro_rules | `(tactic| walk_at "call ref") => `(tactic| (k_here; (with_reducible show wpAny _ _ (call (Value.ref 128) _) _ _ _); k_dflt (first
  | (refine' cc putH_ok2 ?k ?kU ?kx ?kn (fun h9 tk9 F9 N9 => ?_); (case k => walk_at "std"); (case kx => k_mem); (case kU => k_upd); (case kn => k_ne))
  | (refine' cc (put_ok2 ?a1 ?a2) ?k ?kU ?kx ?kn (fun h9 tk9 F9 N9 => ?_); (case a1 => omega); (case a2 => omega); (case k => walk_at "std"); (case kx => k_mem); (case kU => k_upd); (case kn => k_ne))); walk_at "tidy"))
local macro_rules | `(tactic| walk_at "call ref") => `(tactic| (k_here; (with_reducible show wpAny _ _ (call (Value.ref 133) _) _ _ _); k_dflt (refine' cc (may_ok ?z1 ?z2) ?k (fun b9 h9 tk9 i9 F9 N9 => ?_); (case k => (walk_at "k3"; exact news_dup2 (by k_asm) (by k_mem) (by k_mem); walk_at "ends")); (case z1 => walk_at "z2"); (case z2 => walk_at "z3")); (replace N9 := news_drop2 N9); walk_at "tidy"))
local macro_rules | `(tactic| walk_at "call type:tuple") => `(tactic| (k_here; (with_reducible show wpAny _ _ (call (Value.type _) [Value.ref _]) _ _ _); k_dflt (refine' tuple_new ?k1 ?k2 ?k4 ?_; (case k1 => k_asm); (case k2 => k_asm); (case k4 => (rename List.length _ = List.length (List.map _ (rangeKs _ _)) => hL9; rw [hL9]; exact h17_l (by assumption))); k_whole); intro D9 h9 F9 N9 e1 e2 e3 e4; (try dsimp only at e4)))
local macro_rules | `(tactic| walk_at "call ref") => `(tactic| (k_here; (try dsimp only [List.cons_append, List.nil_append, List.append_nil]); (with_reducible show wpAny _ _ (call (Value.ref 79) [Value.ref _]) _ _ _); k_dflt (refine' cc tiny_ok2 ?k ?kU ?kx ?kn (fun t9 h9 tk9 F9 N9 => ?_); (case k => walk_at "std"); (case kx => k_mem); (case kU => (intro t'; k_upd)); (case kn => k_ne)); (try dsimp only at N9); walk_at "tidy"))
local macro_rules | `(tactic| walk_at "call ref") => `(tactic| (k_here; (with_reducible show wpAny _ _ (call (Value.ref 114) [Value.ref _]) _ _ _); k_dflt (refine' cc small_ok2 ?k ?kx (fun l9 t9 n9 h9 tk9 a9 F9 N9 => ?_); (case k => walk_at "std"); (case kx => k_mem)); (k_lt a9); walk_at "tidy"))
local macro_rules | `(tactic| walk_at "setItem ref int") => `(tactic| (k_here; (with_reducible show wpAny _ _ (setItem (Value.ref _) (Value.int _ _) (Value.int _ _)) _ _ _); k_dflt (refine' want_set ?k1 ?k2 ?k3 ?k4 ?k5 ?_; (case k1 => k_asm); (case k2 => k_asm); (case k3 => k_upd); (case k4 => omega); (case k5 => omega); k_whole); intro h' F' N'))
local macro_rules | `(tactic| walk_at "setItem ref int") => `(tactic| (k_here; (with_reducible show wpAny _ _ (setItem (Value.ref _) (Value.int _ _) (Value.ref _)) _ _ _); k_dflt (refine' want_setH ?k1 ?k2 ?k3 ?_; (case k1 => k_asm); (case k2 => k_asm); (case k3 => k_upd); k_whole); intro h' F' N'))
local macro_rules | `(tactic| walk_at "setItem ref int ref") => `(tactic| (k_here; (with_reducible show wpAny _ _ (setItem (Value.ref _) (Value.int _ _) (Value.ref _)) _ _ _); k_dflt (refine' want_setH ?k1 ?k2 ?k3 ?_; (case k1 => k_asm); (case k2 => k_asm); (case k3 => k_upd); k_whole); intro h' F' N'))
local macro_rules | `(tactic| walk_at "subscriptTail") => `(tactic| (k_here; (with_reducible show wpAny _ _ (subscriptTail _ _ _ (Value.int (Int.fmod _ _) _)) _ _ _); with_unfolding_all (refine' want_item ?k1 ?k2 ?k3 ?k4 ?_ ?k6; (case k1 => k_asm); (case k2 => k_mem); (case k3 => omega); (case k4 => omega); (case k6 => with_unfolding_all rfl))))
local macro_rules | `(tactic| k_ne) => `(tactic| (refine neN ?_; (try dsimp only); first | exact Apart.ne (by assumption) | exact Apart.symm (by assumption) | omega))
local macro_rules | `(tactic| walk_at "binaryOp Pow int int") => `(tactic| (k_here; (refine pow_int_small (by assumption) (j_le (by assumption) (by assumption)) six_ok ?_)))
local macro_rules | `(tactic| walk_at "binaryOp FloorDiv int int") => `(tactic| (k_here; (with_reducible show wpAny _ _ (binaryOp _ (Value.int _ _) (Value.int (HPow.hPow _ _) _)) _ _ _); (refine floordiv_int (pow6_ne _) ?_ (Or.inl (pow6_py (j_le3 (by assumption) (by assumption)))))))
local macro_rules | `(tactic| walk_at "exec If") => `(tactic| (k_here; refine wpAny_If ?_))
local macro_rules | `(tactic| walk_at "exec If") => `(tactic| (k_here; (with_reducible show wpAny _ _ (exec (Stmt.If (PySem.Expr.Compare (PySem.Expr.BinOp (PySem.Expr.Subscript _ _ _) _ _ _) _ _ _) [_, _] _ _) _) _ _ _); (fail_if_success (with_reducible show wpAny _ _ _ (CutPost _ _ _ _ _ _ _) _ _)); k_dflt (refine cut_tiny (by k_asm) (by k_asm) ?_ (fun v9 t9 lw9 tw9 n9 h9 tk9 ok9 F9 N9 => ?_)); (all_goals (try (have lt9 := ltN ok9.2.2))); (all_goals (try k_fold))))
set_option maxRecDepth 100000 in
set_option maxHeartbeats 8000000 in
theorem law_holds : PySem.Challenge.rw_pf0283_01.Holds := Mine.hd (by
  w_strict (
    k_go0; (all_goals try k_fold)
    iterate 12 (first | (k_unfold; (try dsimp only)) | (k_end; wrow_close) | walk1 | (dsimp only; walk1) | (leave1; (try dsimp only)))
    refine cut_nums (by k_asm) (by k_asm) ?_ ?_
    · k_steps
      · refine cut_end ⟨_, [_], [0], _⟩ ⟨IntsAre.cons _ _ IntsAre.nil, by simp, by simp, by simp, ?zlt⟩ (by k_asm) (fun z => rfl) (news_sub (by k_asm) (by intro p hp; (rcases List.mem_cons.mp hp with rfl | hp); exact List.Mem.head _; (repeat' (first | exact hp | apply List.Mem.tail))))
        case zlt => (refine neN ?_; (try dsimp only); omega)
      · rename ¬ _ = (0 : Int) => hne9
        have hto := take_ok hne9
        refine cut_end ⟨_, ys, _, _⟩ ⟨by assumption, hto.1, hto.2.1, hto.2.2, ?zlu⟩ (by k_asm) ?zhm (news_sub (by k_asm) (by intro p hp; (rcases List.mem_cons.mp hp with rfl | hp); exact List.Mem.head _; (repeat' (first | exact hp | apply List.Mem.tail))))
        case zhm => (intro z; (by_cases hz : z = Str.ofString "nums") <;> simp [kstB, hz])
        case zlu => (refine neN ?_; (try dsimp only); omega)
    intro D vs ns n h9 tk9 hC F9 N9
    have hiC := hC.1
    have hlC := hC.2.2.1
    have hneC := neN hC.2.2.2.2
    dsimp only at hiC hlC hneC
    k_steps
    · refine' cut_end ⟨small v0, _, _, _, _⟩ ⟨may_small0, small_bound v0_bound, ?lt1⟩ ?F1 ?hm1 ?N1
      (case F1 => k_asm)
      (case N1 => (refine' news_sub ?Na1 ?Nb1; (case Na1 => k_asm); (case Nb1 => ((try dsimp only); repeat' (first | exact List.forall_mem_nil _ | (refine List.forall_mem_cons.mpr (And.intro ?_ ?_)) | exact List.Mem.head _ | k_mem | apply List.Mem.tail)))))
      (case hm1 => (intro z; first | exact rfl | exact hm_same z | exact hm_tiny z))
      (case lt1 => (refine ltN ?_; (try dsimp only); omega))
    · refine' cut_end ⟨v0, _, _, _, _⟩ ⟨may0, v0_bound, ?lt2⟩ ?F2 ?hm2 ?N2
      (case F2 => k_asm)
      (case N2 => (refine' news_sub ?Na2 ?Nb2; (case Na2 => k_asm); (case Nb2 => ((try dsimp only); repeat' (first | exact List.forall_mem_nil _ | (refine List.forall_mem_cons.mpr (And.intro ?_ ?_)) | exact List.Mem.head _ | k_mem | apply List.Mem.tail)))))
      (case hm2 =>
        intro z
        by_cases h1 : z = Str.ofString "want"
        · subst h1; exact rfl
        · by_cases h2 : z = Str.ofString "back"
          · subst h2; exact rfl
          · first
              | exact (if_neg h2).trans ((if_neg h1).trans (((if_neg h1).trans ((if_neg h2).trans ((if_neg h2).trans (if_neg h1)))).symm))
              | simp only [kstB, h1, h2, if_false])
      (case lt2 => (refine ltN ?_; (try dsimp only); omega))
    refine StopHere.mk ?_
    rename S2.Ok _ _ => ok9
    have lt9 := ltN ok9.2.2
    dsimp only at lt9
    refine law_loop (by rfl) (by k_asm) (by k_asm) (by assumption) ⟨ok9.1, ok9.2.1, hs0_bound, hs0_len, by assumption, by assumption⟩ ?_ ?_ (by assumption) ?_ ?_ ?_
    · exact ⟨neN (by omega), neN (by omega), neN (by omega)⟩
    · exact ⟨neN (by omega), neN (by omega), neN (by omega)⟩
    · constructor <;> (refine Apart.mk (neN ?_); (try dsimp only); omega)
    · intro v t tw tb tbw hvs hvsw hs k1 k2 nw co cv n1 tn u h tk I oI hn hfx ok1 hb1 hb2 hco hI F1 N1
      have hn1 := hC.2.2.2.1 n1 (List.mem_of_mem_drop hn)
      obtain ⟨q1, q2, q3⟩ := hb1
      obtain ⟨q4, q5, q6⟩ := hb2
      obtain ⟨q7, q8, q9, q10, q11⟩ := hI
      obtain ⟨hn2, hn3⟩ := hn1
      obtain ⟨p0, p1, p2, p3, p4, p5, p6, p7, p8, p9, p10, p11, p12, p13, p14, p15, p16, p17, p18, p19, p20⟩ := hfx
      dsimp only at p0 p1 p2 p3 p4 p5 p6 p7 p8 p9 p10 p11 p12 p13 p14 p15 p16 p17 p18 p19 p20
      repeat (rename _ < _ ∧ _ => zz9; clear zz9)
      repeat (rename List.length _ = _ => zz9; clear zz9)
      repeat (rename List.length _ ≤ _ => zz9; clear zz9)
      have hm1 := fm_bound n1 18 (by decide)
      obtain ⟨hm2, hm3⟩ := hm1
      have hy1 : 0 ≤ n1.fdiv 18 ∧ n1.fdiv 18 < 1000003 := fd18 hn2 hn3
      obtain ⟨hy2, hy3⟩ := hy1
      replace q1 := Apart.mk q1; replace q2 := Apart.mk q2; replace q3 := Apart.mk q3; replace q4 := Apart.mk q4; replace q5 := Apart.mk q5; replace q6 := Apart.mk q6; replace q7 := Apart.mk q7; replace q8 := Apart.mk q8; replace q9 := Apart.mk q9; replace q10 := Apart.mk q10; replace q11 := Apart.mk q11
      k_steps
      all_goals (refine' lp_end2 ?F ?N ?m1 ?m2 ?m3 ?m4 ?m5 ?m6 ?m7 ?m8 ?m9 ?ma ?mb ?mc ?h4 ?e1 ?e2 ?e3 ?e4 ?e5 ?e6 ?e7 ?e8 ?h1 ?hm; (case F => k_asm); (case N => k_asm); (case m1 => k_mem); (case m2 => k_mem); (case m3 => k_mem); (case m4 => k_mem); (case m5 => k_mem); (case m6 => k_mem); (case m7 => k_mem); (case m8 => k_mem); (case m9 => k_mem); (case ma => k_mem); (case mb => k_mem); (case mc => k_mem); (case h4 => assumption); (case e1 => assumption); (case e2 => assumption); (case e3 => assumption); (case e4 => assumption); (case e5 => assumption); (case e6 => assumption); (case e7 => assumption); (case e8 => assumption); (case h1 => first | exact LOk.new17 ok1 (Iff.mp (by assumption) (by assumption)) h17_b (h17_l (by assumption)) (by assumption) | exact LOk.new ok1 (Iff.mp (by assumption) (by assumption)) (by assumption) (by assumption) | exact LOk.back ok1 | exact LOk.back17 ok1); (case hm => (intro z hz; first | exact hm_turn hz | exact hm_turn17 hz)))
    · intro v t tw tb tbw hvs hvsw hs k1 k2 nw co cv u h tk ok1 hb1 hb2 hco F1 N1
      obtain ⟨q1, q2, q3⟩ := hb1
      obtain ⟨q4, q5, q6⟩ := hb2
      k_steps))
end Mine
theorem PySem.Challenge.cw_pf0283_01_holds : PySem.Challenge.rw_pf0283_01.Holds := by
  exact Mine.law_holds
