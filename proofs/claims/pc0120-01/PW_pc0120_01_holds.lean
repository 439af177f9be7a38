import PyProof.Rows.All
import Wide.All
import OpenK.AllK
import Wide.FinOn
import PySem.Challenge.RW_pc0120_01
open PySem PySem.W PyProof.Rows
set_option Elab.async false
set_option maxRecDepth 100000
namespace Mine
set_option maxHeartbeats 8000000 in
open_top hd for PySem.Challenge.rw_pc0120_01
theorem topOff : True := by
  w_top off
  trivial
end Mine
open PySem PySem.W PyProof.Rows PySem.Calls PySem.Spec
section
namespace Mine

abbrev Led := List (Addr × Obj)

def Calls (prog : Program) (w : World) (f : Addr) (k : Nat) (vs : List Value) (news : Led) (Post : Value → Led → Prop) : Prop :=
  ∀ (p : Program) (loose : List Str) (mean : ExcName → Option Value) (mg mb : Str → Option Value) (dp un : Nat) (gd : Option (List Code)) (cn : Str) (cs : Scope) (a : Addr) (ccd : Value) (cl : List (Str × Addr)) (outer : List Env) (A₀ : Around) (base h₀ : Heap) (L : Addr) (m : Str → Option Value) (s : Shared) (Q E : Value → Shared → Prop),
    Below A₀ base outer h₀ → Fr h₀ L s.heap m → (Mine.hd.heap_39 w.params).In h₀ → News h₀ L s.heap news → Top p loose mean mg mb h₀ → cs.kind = .function →
    dp + k < recursionLimit → un + 8 * k < cLine →
    (∀ r h' tk' news', Fr h₀ L h' m → News h₀ L h' news' → Post r news' → Q r { s with heap := h', toks := tk' }) →
    wpAny (model prog w) (ktrTop dp un gd cn cs L a ccd cl outer) (call (.ref f) vs) Q E s


local macro_rules | `(tactic| k_all) => `(tactic| assumption)
local macro_rules | `(tactic| k_mem) => `(tactic| assumption)
local macro_rules | `(tactic| is_list) => `(tactic| exact News.isList (by k_asm) (by k_mem))
local macro_rules | `(tactic| walk_at "binaryOp Mod int int") => `(tactic| refine mod_int (by omega) ?_)
local macro_rules | `(tactic| walk_at "binaryOp FloorDiv int int") => `(tactic| refine floordiv_int (by omega) ?_)
set_option maxHeartbeats 4000000 in
theorem draw_ok (prog : Program) (w : World) (src c : Addr) (n n2 : Nat) (cells : List Value) (ns : List Int) (at_ : Int) (ta tl : Tok) (limit : Int) (rest : Led)
    (hc : (c, listOf cells.toArray n2) ∈ rest) (hi : IntsAre cells ns) (hne : 0 < ns.length) (hat : 0 ≤ at_) (hlim : 0 < limit) (hrest : ∀ p ∈ rest, p.1 ≠ src) (hcl : ns.length ≤ 60) :
    Calls prog w 131 1 [.ref src, .int limit tl] ((src, listOf #[.ref c, .int at_ ta] n) :: rest)
      (fun r news' => ∃ v t t', r = .int v t ∧ 0 ≤ v ∧ v < limit ∧ news' = (src, listOf #[.ref c, .int (at_ + 1) t'] n) :: rest) := by
  intro p loose mean mg mb dp un gd cn cs a ccd cl outer A₀ base h₀ L m s Q E B F X N T hk hd hu hret
  refine wpAny_call ?_
  k_dflt ktr_enter
  k_steps
  exact hret _ _ _ _ (by k_asm) (by k_asm) ⟨_, _, _, rfl, fmod_lo _ hlim, fmod_hi _ hlim, rfl⟩
end Mine
end
section
namespace Mine


/-- the rows' data: name and section of the row at k -/
def nm (R : List (Str × Str)) (k : Int) : Str := (R.getD k.toNat (Str.empty, Str.empty)).1
def sec (R : List (Str × Str)) (k : Int) : Str := (R.getD k.toNat (Str.empty, Str.empty)).2

def ParAt (news : Led) (x : Addr) (a b : Str) (body : Value) : Prop :=
  ∃ dx h1 h2 h3 k1 k2 k3 ta tb n, (x, instObj 79 dx) ∈ news ∧ (dx, dictOf [⟨h1, .str "name" k1, .str a ta⟩, ⟨h2, .str "section" k2, .str b tb⟩, ⟨h3, .str "statements" k3, body⟩] n) ∈ news

def Pars (news : Led) (vs : List Value) (R : List (Str × Str)) : Prop :=
  vs.length = R.length ∧ ∀ k : Int, 0 ≤ k → k < R.length → ∃ x body, vs[k.toNat]? = some (.ref x) ∧ ParAt news x (nm R k) (sec R k) body

def ProcAt (news : Led) (p lr : Addr) (using_ : Value) : Prop :=
  ∃ dp h1 h2 k1 k2 n, (p, instObj 119 dp) ∈ news ∧ (dp, dictOf [⟨h1, .str "rows" k1, .ref lr⟩, ⟨h2, .str "using" k2, using_⟩] n) ∈ news

theorem upd2 {x : Str} {v v' : Option Value} {m0 : Str → Option Value} : (fun y => if y = x then v else (fun y => if y = x then v' else m0 y) y) = fun y => if y = x then v else m0 y := by
  funext y
  by_cases h : y = x <;> simp [h]

theorem wstep_next {h₀ : Heap} {L : Addr} {s : Shared} {J : Nat → (Str → Option Value) → List (Addr × Obj) → Prop} {Q : Flow → Shared → Prop} {n n' : Nat} {h' : Heap} {tk : Nat} {m₂ : Str → Option Value} {news₂ : Led}
    (F : Fr h₀ L h' m₂) (N : News h₀ L h' news₂) (hn : n' < n) (hJ : J n' m₂ news₂) : WhileStep2 h₀ L s J Q n .next { s with heap := h', toks := tk } := ⟨h', tk, m₂, news₂, n', rfl, F, N, hn, hJ⟩

section
variable {prog : Program} {w : World} {A : Around} {E : Value → Shared → Prop} {s : Shared} {h₀ : Heap} {L : Addr} {news : Led}
theorem len_pars {l : Addr} {vs : List Value} {n : Nat} {R : List (Str × Str)} {Q : Value → Shared → Prop} (N : News h₀ L s.heap news) (hm : (l, listOf vs.toArray n) ∈ news) (hp : Pars news vs R) (hR : R.length ≤ 1000)
    (h : Q (.int (R.length : Nat) (s.toks + 1)) { s with toks := s.toks + 1 + 1 }) : wpAny (model prog w) A (call (.builtin "len") [.ref l]) Q E s := by
  have e : vs.toArray.size = R.length := by simp [hp.1]
  refine Calls.call_len_list (News.isList N hm) (by omega) ?_
  rw [e]
  exact h
theorem sub_pars {value slice : Expr} {l : Addr} {vs : List Value} {n : Nat} {R : List (Str × Str)} {k : Int} {u : Tok} {Q : Value → Shared → Prop} (N : News h₀ L s.heap news) (hm : (l, listOf vs.toArray n) ∈ news) (hp : Pars news vs R) (hR : R.length ≤ 1000)
    (h0 : 0 ≤ k) (h1 : k < R.length)
    (h : ∀ x dx c1 c2 c3 k1 k2 k3 ta tb n body, vs[k.toNat]? = some (.ref x) → (x, instObj 79 dx) ∈ news → (dx, dictOf [⟨c1, .str "name" k1, .str (nm R k) ta⟩, ⟨c2, .str "section" k2, .str (sec R k) tb⟩, ⟨c3, .str "statements" k3, body⟩] n) ∈ news → Q (.ref x) s)
    (hs : subscripted slice false (.ref l) (.int k u) = operate [.ref l, .int k u] (getItem (.ref l) (.int k u)) := by with_unfolding_all rfl) :
    wpAny (model prog w) A (subscriptTail value slice (.ref l) (.int k u)) Q E s := by
  obtain ⟨x, body, hx, dx, c1, c2, c3, k1, k2, k3, ta, tb, n', m1, m2⟩ := hp.2 k h0 h1
  exact tail_any (News.isList N hm).typeIs slot_list_getitem.lookup (wpAny_getItem_list (News.isList N hm) h0 (by omega) (by simpa using hx) (h x dx c1 c2 c3 k1 k2 k3 ta tb n' body hx m1 m2)) hs
end

def secEndSpec (R : List (Str × Str)) (a e : Int) : Prop :=
  a ≤ e ∧ e < R.length ∧ (∀ k, a < k → k ≤ e → sec R k = sec R a) ∧ (e + 1 < R.length → sec R (e + 1) ≠ sec R a)

local macro_rules | `(tactic| k_all) => `(tactic| assumption)
local macro_rules | `(tactic| k_mem) => `(tactic| assumption)
local macro_rules | `(tactic| walk_at "call builtin:len") => `(tactic| (k_here; (with_reducible show wpAny _ _ (call (Value.builtin "len") [Value.ref _]) _ _ _); refine len_pars (by k_asm) (by assumption) (by assumption) (by assumption) ?_))
local macro_rules | `(tactic| walk_at "subscriptTail Name BinOp ref int") => `(tactic| (k_here; (refine sub_pars (by k_asm) (by assumption) (by assumption) (by assumption) (by omega) (by omega) ?_); intro x' dx' c1' c2' c3' k1' k2' k3' ta' tb' n' body' hx' m1' m2'))
local macro_rules | `(tactic| walk_at "subscriptTail Name Name ref int") => `(tactic| (k_here; (refine sub_pars (by k_asm) (by assumption) (by assumption) (by assumption) (by omega) (by omega) ?_); intro x' dx' c1' c2' c3' k1' k2' k3' ta' tb' n' body' hx' m1' m2'))
local macro_rules | `(tactic| walk_at "eval Name") => `(tactic| (k_here; k_dflt (refine' ld ?k1 ?k2 ?_; (case k1 => k_asm); (case k2 => first | exact rfl | assumption); k_whole)))
local macro_rules | `(tactic| walk_at "my_steps") => `(tactic| repeat' (
  fail_if_success (with_reducible show wpAny _ _ (exec (PySem.Stmt.While _ _ _ _) _) _ _ _);
  fail_if_success (with_reducible show wpAny _ _ (exec (PySem.Stmt.For _ _ _ _ _) _) _ _ _);
  fail_if_success (with_reducible show wpAny _ _ (pyIter _) _ _ _);
  first | (k_unfold; (try dsimp only)) | (k_end; wrow_close) | walk1 | (dsimp only; walk1) | (leave1; walk_say "STEP leave1"; try dsimp only) | fail "no step"))

set_option maxHeartbeats 4000000 in
theorem section_end_ok (prog : Program) (w : World) (p lr : Addr) (using_ : Value) (vs : List Value) (nl : Nat) (R : List (Str × Str)) (a : Int) (ta : Tok) (news : Led)
    (hP : ProcAt news p lr using_) (hl : (lr, listOf vs.toArray nl) ∈ news) (hp : Pars news vs R) (hR : R.length ≤ 1000) (h0 : 0 ≤ a) (h1 : a < R.length) :
    Calls prog w 109 1 [.ref p, .int a ta] news (fun r news' => news' = news ∧ ∃ e t, r = .int e t ∧ secEndSpec R a e) := by
  intro pr loose mean mg mb dp un gd cn cs af ccd cl outer A₀ base h₀ L m s Q E B F X N T hk hd hu hret
  obtain ⟨dp', c1, c2, k1, k2, n', hp1, hp2⟩ := hP
  refine wpAny_call ?_
  k_dflt ktr_enter
  walk_at "my_steps"
  rename Fr _ _ _ _ => F1
  rename News _ _ _ _ => N1
  refine While_inv2 (fun n m₁ news₁ => news₁ = news ∧ ∃ e t, m₁ (Str.ofString "end") = some (.int e t) ∧ m₁ (Str.ofString "self") = some (.ref p) ∧ m₁ (Str.ofString "at") = some (.int a ta) ∧ a ≤ e ∧ e < R.length ∧ (∀ k, a < k → k ≤ e → sec R k = sec R a) ∧ n = (R.length - e).toNat) F1 N1 ⟨rfl, a, ta, rfl, rfl, rfl, by omega, by omega, fun k h1 h2 => by omega, rfl⟩ ?_
  rintro n m₁ news₁ h₁ tk₁ F₁ N₁ ⟨rfl, e, t, hm1, hm2, hm3, he0, he1, hall, rfl⟩
  walk_at "my_steps"
  · refine' wstep_next (n' := (R.length - (e+1)).toNat) ?F ?N ?_ ?_
    case F => k_asm
    case N => k_asm
    · omega
    refine ⟨rfl, e + 1, _, rfl, hm2, hm3, by omega, by omega, fun k hk1 hk2 => ?_, rfl⟩
    by_cases hk : k = e + 1
    · subst hk; first | assumption | exact eq_of_beq (by assumption)
    · exact hall k hk1 (by omega)
  · refine hret _ _ _ _ (by k_asm) (by k_asm) ⟨rfl, e, t, rfl, he0, he1, hall, fun _ => ?_⟩
    first | assumption | exact ne_of_beq_false (by assumption) | (intro hh; simp_all)
  · exact hret _ _ _ _ (by k_asm) (by k_asm) ⟨rfl, e, t, rfl, he0, he1, hall, fun _ => by omega⟩
end Mine
end
section
namespace Mine

def TurnK (h₀ : Heap) (L : Addr) (J : (Str → Option Value) → Led → Prop) (I : Addr) (o : Obj) (s₁ : Shared) (Q : Flow → Shared → Prop) (f : Flow) (s₂ : Shared) : Prop :=
  match f with
  | .ret v => Q (.ret v) s₂
  | .brk => Q .next s₂
  | _ => ∃ h' tk m' nx, s₂ = { s₁ with heap := h', toks := tk } ∧ Fr h₀ L h' m' ∧ News h₀ L h' ((I, o) :: nx) ∧ (∀ p ∈ nx, p.1 ≠ I) ∧ J m' nx
theorem turnk_next {h₀ : Heap} {L I : Addr} {o : Obj} {J : (Str → Option Value) → Led → Prop} {s₁ : Shared} {Q : Flow → Shared → Prop} {h' : Heap} {tk : Nat} {m' : Str → Option Value} {nx : Led}
    (F : Fr h₀ L h' m') (N : News h₀ L h' ((I, o) :: nx)) (hI : ∀ p ∈ nx, p.1 ≠ I) (hJ : J m' nx) : TurnK h₀ L J I o s₁ Q .next { s₁ with heap := h', toks := tk } := ⟨h', tk, m', nx, rfl, F, N, hI, hJ⟩

section
variable {prog : Program} {w : World} {A : Around} {E : Value → Shared → Prop} {s : Shared} {h₀ : Heap} {env : Env} {x : Str} {body : List Stmt} {Q : Flow → Shared → Prop}
set_option maxHeartbeats 3200000 in
theorem loop_range {r : Addr} {a b : Int} {t₀ u₀ v₀ : Tok} {m₀ : Str → Option Value} {news : Led} (n : Nat) (J : Nat → (Str → Option Value) → Led → Prop)
    (hh : A.handled = none) (hr : IsRange s.heap r a b 1 t₀ u₀ v₀) (hsm : Builtin.Range.small a b 1 = true) (hsz : Builtin.Range.rangeSize a b 1 = (n : Int)) (F : Fr h₀ env.locals s.heap m₀) (N : News h₀ env.locals s.heap news) (hj : J 0 m₀ news)
    (turn : ∀ i t m₁ nx h tk I o, i < n → (∀ p ∈ nx, p.1 ≠ I) → J i m₁ nx → Fr h₀ env.locals h (fun y => if y = x then some (.int (a + i) t) else m₁ y) → News h₀ env.locals h ((I, o) :: nx) →
      wpAny (model prog w) A (execs body env) (TurnK h₀ env.locals (J (i + 1)) I o { s with heap := h, toks := tk } Q) E { s with heap := h, toks := tk })
    (done : ∀ m₁ nx h tk, J n m₁ nx → Fr h₀ env.locals h m₁ → News h₀ env.locals h nx → Q .next { s with heap := h, toks := tk }) :
    wpAny (model prog w) A (pyIter (.ref r)) (fun it s₂ => LoopAtV prog w A h₀ env x body Q E it s₂) E s := by
  refine wpAny_pyIter_range hr hsm ?_
  have W : Walks prog w A s.heap.objs.size [s.heap.objs.size] [s.heap.objs.size] n (fun i v => i < n ∧ ∃ t, v = .int (a + i * 1) t)
      (fun i h => IsRangeIter h s.heap.objs.size (a + (i : Nat) * 1) ((n : Int) - (i : Nat)) 1) := (Walks.range hh _ a 1 n).bound
  have hI0 : h₀.get? s.heap.objs.size = none := next_is_new F
  refine ⟨s.heap.objs.size, _, _, n, _, _, m₀, news, J, rfl, W, ?_, ?_, ?_, (by show IsRangeIter _ _ _ _ _; rw [hsz]; simpa using Heap.get?_push_size _ rfl), F.push _, (fun p hp => ⟨Heap.get?_push_of_some _ (N p hp).1, (N p hp).2⟩), hj, ?_, ?_⟩
  · intro hm
    exact absurd F.ns.lt ((List.mem_singleton.mp hm) ▸ Nat.lt_irrefl _)
  · intro b hb
    rw [List.mem_singleton.mp hb]
    exact hI0
  · intro p hp hI
    exact absurd (Heap.lt_size (N p hp).1) ((List.mem_singleton.mp hI) ▸ Nat.lt_irrefl _)
  · rintro i v m₁ news₁ s₁ own ⟨hh', tk', rfl⟩ hin ⟨_, t, rfl⟩ hJ hoff hown hget hall hst' F₁ N₁
    have e1 : a + (i : Int) * 1 = a + (i : Int) := by omega
    rw [e1] at F₁
    have ho := hst'
    obtain ⟨o, ho⟩ : ∃ o, hh'.get? s.heap.objs.size = some o := ⟨_, hst'⟩
    have hio : (s.heap.objs.size, o) ∈ own := hall _ (List.mem_singleton.mpr rfl) hI0 o ho
    have hone := own_one hown (fun b hb => .inl (List.mem_singleton.mp hb)) ho N₁
    refine wpAny_mono (turn i t m₁ news₁ hh' tk' s.heap.objs.size o hin (fun p hp e => hoff p hp (List.mem_singleton.mpr e)) hJ F₁ (news_one hio N₁)) (fun f s₂ p => ?_) fun _ _ e => e
    have fin : (∃ h' tk m' nx, s₂ = { { s with heap := hh', toks := tk' } with heap := h', toks := tk } ∧ Fr h₀ env.locals h' m' ∧ News h₀ env.locals h' ((s.heap.objs.size, o) :: nx) ∧ (∀ p ∈ nx, p.1 ≠ s.heap.objs.size) ∧ J (i + 1) m' nx) →
        LoopStepU h₀ env.locals [s.heap.objs.size] own (J (i + 1)) { s with heap := hh', toks := tk' } .next s₂ := by
      rintro ⟨h', tk, m', nx, e, F', N', hn, hm⟩
      refine ⟨rfl, h', tk, m', nx, e, F', fun p hp => ?_, fun p hp hq => hn p hp (List.mem_singleton.mp hq), hm⟩
      rcases List.mem_append.mp hp with h | h
      · rw [hone p h]; exact N' _ (.head _)
      · exact N' _ (.tail _ h)
    cases f with
    | ret v => exact .ret p
    | brk => exact .brk p
    | next => exact .next (fin p)
    | cont => exact .cont (fin p)
  · rintro h' tk m' news' F' N' _ hJ
    exact done m' news' h' tk hJ F' N'
end
end Mine
end
section
namespace Mine

abbrev tup (vs : List Value) (n : Nat) : Obj := { cls := .type "tuple", data := .seq vs.toArray n }

/-- the rows of the law: a list of pairs of texts -/
def RowsV (news : Led) (vs : List Value) (R : List (Str × Str)) : Prop :=
  vs.length = R.length ∧ ∀ k : Int, 0 ≤ k → k < R.length → ∃ t n ta tb, vs[k.toNat]? = some (.ref t) ∧ (t, tup [.str (nm R k) ta, .str (sec R k) tb] n) ∈ news

def RowsOk (R : List (Str × Str)) : Prop := ∀ k, PySem.PyData.strOk (nm R k) = true ∧ PySem.PyData.strOk (sec R k) = true

section
variable {prog : Program} {w : World} {A : Around} {E : Value → Shared → Prop} {s : Shared} {h₀ : Heap} {L : Addr} {news : Led}
theorem len_rows {l : Addr} {vs : List Value} {n : Nat} {R : List (Str × Str)} {news₁ : Led} {Q : Value → Shared → Prop} (N : News h₀ L s.heap news) (hm : (l, listOf vs.toArray n) ∈ news) (hp : RowsV news₁ vs R) (hR : R.length ≤ 1000)
    (h : Q (.int (R.length : Nat) (s.toks + 1)) { s with toks := s.toks + 1 + 1 }) : wpAny (model prog w) A (call (.builtin "len") [.ref l]) Q E s := by
  have e : vs.toArray.size = R.length := by simp [hp.1]
  refine Calls.call_len_list (News.isList N hm) (by omega) ?_
  rw [e]
  exact h
theorem RowsV.mono {news news' : Led} {vs : List Value} {R : List (Str × Str)} (h : RowsV news vs R) (hs : ∀ p ∈ news, p ∈ news') : RowsV news' vs R :=
  ⟨h.1, fun k h0 h1 => let ⟨t, n, ta, tb, a, b⟩ := h.2 k h0 h1; ⟨t, n, ta, tb, a, hs _ b⟩⟩
theorem sub_rows {value slice : Expr} {l : Addr} {vs : List Value} {n : Nat} {R : List (Str × Str)} {k : Int} {u : Tok} {news₁ : Led} {Q : Value → Shared → Prop} (N : News h₀ L s.heap news) (hm : (l, listOf vs.toArray n) ∈ news) (hp : RowsV news₁ vs R) (hR : R.length ≤ 1000)
    (h0 : 0 ≤ k) (h1 : k < R.length)
    (h : ∀ t n ta tb, vs[k.toNat]? = some (.ref t) → (t, tup [.str (nm R k) ta, .str (sec R k) tb] n) ∈ news₁ → Q (.ref t) s)
    (hs : subscripted slice false (.ref l) (.int k u) = operate [.ref l, .int k u] (getItem (.ref l) (.int k u)) := by with_unfolding_all rfl) :
    wpAny (model prog w) A (subscriptTail value slice (.ref l) (.int k u)) Q E s := by
  obtain ⟨t, n', ta, tb, hx, m1⟩ := hp.2 k h0 h1
  exact tail_any (News.isList N hm).typeIs slot_list_getitem.lookup (wpAny_getItem_list (News.isList N hm) h0 (by omega) (by simpa using hx) (h t n' ta tb hx m1)) hs
end

section
variable {prog : Program} {w : World} {A : Around} {E : Value → Shared → Prop} {s : Shared} {h₀ : Heap} {L : Addr} {news : Led}
theorem eq_pair {t q : Addr} {a b c d : Str} {ta tb tc td : Tok} {n n' : Nat} {Q : Value → Shared → Prop} (N : News h₀ L s.heap news) (h1 : (t, tup [.str a ta, .str b tb] n) ∈ news) (h2 : (q, tup [.str c tc, .str d td] n') ∈ news)
    (oa : PySem.PyData.strOk a = true) (ob : PySem.PyData.strOk b = true) (oc : PySem.PyData.strOk c = true) (od : PySem.PyData.strOk d = true) (hu : A.units + 64 < cLine) (h : Q (.bool (a == c && b == d)) s) :
    wpAny (model prog w) A (compareOp .Eq (.ref t) (.ref q)) Q E s := by
  refine eq_dataH (reads_tuple_at (News.get N h1) rfl rfl (ReadsAll.cons (Reads.str a ta) (ReadsAll.cons (Reads.str b tb) ReadsAll.nil))) (reads_tuple_at (News.get N h2) rfl rfl (ReadsAll.cons (Reads.str c tc) (ReadsAll.cons (Reads.str d td) ReadsAll.nil))) ?_ ?_ hu ?_
  · simp [SeqAt.shaped, PyData.canLay0, PyData.canLayAll0, PyData.depth, PyData.depthAll, oa, ob]
  · simp [SeqAt.shaped, PyData.canLay0, PyData.canLayAll0, PyData.depth, PyData.depthAll, oc, od]
  · simp only [PyData.eqv, PyData.eqvAll, Bool.and_true]
    exact h
end

inductive FoundL (news : Led) : List Value → List (Int × Int) → Prop
  | nil : FoundL news [] []
  | snoc {fs : List Value} {ds : List (Int × Int)} {q : Addr} {a b : Int} {ta tb : Tok} {n : Nat} : FoundL news fs ds → (q, tup [.int a ta, .int b tb] n) ∈ news → FoundL news (fs ++ [.ref q]) (ds ++ [(a, b)])
theorem FoundL.mono {news news' : Led} {fs : List Value} {ds : List (Int × Int)} (h : FoundL news fs ds) (hs : ∀ p ∈ news, p ∈ news') : FoundL news' fs ds := by
  induction h with
  | nil => exact .nil
  | snoc _ hm ih => exact .snoc ih (hs _ hm)
theorem FoundL.length {news : Led} {fs : List Value} {ds : List (Int × Int)} (h : FoundL news fs ds) : fs.length = ds.length := by
  induction h with
  | nil => rfl
  | snoc _ _ ih => simp [ih]
theorem FoundL.one {news : Led} {fs : List Value} {d : Int × Int} (h : FoundL news fs [d]) : ∃ q ta tb n, fs = [.ref q] ∧ (q, tup [.int d.1 ta, .int d.2 tb] n) ∈ news := by
  generalize hd : [d] = ds at h
  cases h with
  | nil => cases hd
  | @snoc fs ds q a b ta tb n h1 h2 =>
    have hl : ds.length = 0 := by have this := congrArg List.length hd; rw [List.length_append] at this; simp only [List.length_cons, List.length_nil] at this; omega
    have hds : ds = [] := List.eq_nil_of_length_eq_zero hl
    subst hds
    have hfs : fs = [] := List.eq_nil_of_length_eq_zero h1.length
    subst hfs
    simp at hd
    subst hd
    exact ⟨q, ta, tb, n, rfl, h2⟩

def Cut (P : Prop) : Prop := P
theorem Cut.intro {P : Prop} (h : P) : Cut P := h
theorem Cut.out {P : Prop} (h : Cut P) : P := h

section
variable {prog : Program} {w : World} {A : Around} {E : Value → Shared → Prop} {s : Shared} {h₀ : Heap} {L : Addr} {m : Str → Option Value} {news : Led}
theorem append_S {D : Addr} {its : Array Value} {n : Nat} {x : Value} {Q : Value → Shared → Prop} (F : Fr h₀ L s.heap m) (N : News h₀ L s.heap news) (hm : (D, listOf its n) ∈ news)
    (h : ∀ h', Fr h₀ L h' m → (∀ nx : Led, (∀ p ∈ nx, p ∈ news ∧ p.1 ≠ D) → News h₀ L h' ((D, listOf (its.push x) (n + 1)) :: nx)) → Q .none { s with heap := h' }) (hsz : its.size ≤ sizeLine) :
    wpAny (model prog w) A (call (.builtin "list.append") [.ref D, x]) Q E s := by
  have z := N _ hm
  refine append_at (hsz := hsz) z.1 fun h' hs ho' => h h' (F.change hs z.2.1 z.2.2) fun nx hnx p hp => ?_
  rcases List.mem_cons.mp hp with rfl | hp
  · exact ⟨ho', z.2.1, z.2.2⟩
  · have q := hnx p hp
    have y := N p q.1
    exact ⟨(hs.2 _ q.2).trans y.1, y.2⟩
end

def Cond1 (R : List (Str × Str)) (name section_ : Str) (k : Int) : Prop := name ≠ Str.ofString "" ∧ nm R k = name ∧ (section_ = Str.ofString "" ∨ sec R k = section_)
def Cond2 (R : List (Str × Str)) (name section_ : Str) (k : Int) : Prop := name ≠ Str.ofString "" ∧ nm R k = Str.ofString "" ∧ sec R k = name ∧ section_ = Str.ofString ""
section
variable {R : List (Str × Str)} {name section_ : Str} {k : Int}
theorem cond1_t1 (h1 : (name != Str.ofString "") = true) (h2 : (nm R k == name) = true) (h3 : (section_ == Str.ofString "") = true) : Cond1 R name section_ k := ⟨bne_iff_ne.mp h1, eq_of_beq h2, .inl (eq_of_beq h3)⟩
theorem cond1_t2 (h1 : (name != Str.ofString "") = true) (h2 : (nm R k == name) = true) (h3 : (sec R k == section_) = true) : Cond1 R name section_ k := ⟨bne_iff_ne.mp h1, eq_of_beq h2, .inr (eq_of_beq h3)⟩
theorem cond1_f1 (h1 : (name != Str.ofString "") = false) : ¬ Cond1 R name section_ k := fun h => by simp [h.1] at h1
theorem cond1_f2 (h2 : (nm R k == name) = false) : ¬ Cond1 R name section_ k := fun h => by simp [h.2.1] at h2
theorem cond1_f3 (h3 : (section_ == Str.ofString "") = false) (h4 : (sec R k == section_) = false) : ¬ Cond1 R name section_ k := fun h => by
  rcases h.2.2 with e | e
  · simp [e] at h3
  · simp [e] at h4
theorem cond2_t (h1 : (name != Str.ofString "") = true) (h2 : (nm R k == Str.ofString "" && sec R k == name) = true) (h3 : (section_ == Str.ofString "") = true) : Cond2 R name section_ k := by
  simp only [Bool.and_eq_true, beq_iff_eq] at h2
  exact ⟨bne_iff_ne.mp h1, h2.1, h2.2, eq_of_beq h3⟩
theorem cond2_f1 (h1 : (name != Str.ofString "") = false) : ¬ Cond2 R name section_ k := fun h => by simp [h.1] at h1
theorem cond2_f2 (h2 : (nm R k == Str.ofString "" && sec R k == name) = false) : ¬ Cond2 R name section_ k := fun h => by simp [h.2.1, h.2.2.1] at h2
theorem cond2_f3 (h3 : (section_ == Str.ofString "") = false) : ¬ Cond2 R name section_ k := fun h => by simp [h.2.2.2] at h3
theorem cond_not {P : Int → Int → Prop} (h : Cond1 R name section_ k) : ¬ Cond2 R name section_ k := fun h' => h.1 (h.2.1.symm.trans h'.2.1)
end

/-- what one row adds to what is found: P says which end a section's head gets -/
def Entry (P : Int → Int → Prop) (R : List (Str × Str)) (name section_ : Str) (k : Int) (l : List (Int × Int)) : Prop :=
  (Cond1 R name section_ k ∧ l = [(k, k)]) ∨ (Cond2 R name section_ k ∧ ∃ e, P k e ∧ l = [(k, e)]) ∨ (¬ Cond1 R name section_ k ∧ ¬ Cond2 R name section_ k ∧ l = [])
inductive FoundOf (P : Int → Int → Prop) (R : List (Str × Str)) (name section_ : Str) : Nat → List (Int × Int) → Prop
  | zero : FoundOf P R name section_ 0 []
  | succ {i : Nat} {l l' : List (Int × Int)} : FoundOf P R name section_ i l → Entry P R name section_ i l' → FoundOf P R name section_ (i + 1) (l ++ l')

theorem Entry.le {P : Int → Int → Prop} {R : List (Str × Str)} {name section_ : Str} {k : Int} {l : List (Int × Int)} (h : Entry P R name section_ k l) : l.length ≤ 1 := by
  rcases h with ⟨_, rfl⟩ | ⟨_, e, _, rfl⟩ | ⟨_, _, rfl⟩ <;> simp
theorem FoundOf.le {P : Int → Int → Prop} {R : List (Str × Str)} {name section_ : Str} {i : Nat} {l : List (Int × Int)} (h : FoundOf P R name section_ i l) : l.length ≤ i := by
  induction h with
  | zero => simp
  | succ _ e ih => rw [List.length_append]; have := e.le; omega

/-- the law's end of a section -/
def lawEndSpec (R : List (Str × Str)) (a e : Int) : Prop :=
  a ≤ e ∧ e < R.length ∧ (∀ k, a < k → k ≤ e → nm R k ≠ Str.ofString "") ∧ (e + 1 < R.length → nm R (e + 1) = Str.ofString "")

/-- the state behind a statement of the turn: the list fo stands with what dd tells -/
def LFPost (g1 : Heap) (L1 : Addr) (s : Shared) (news : Led) (I : Addr) (o : Obj) (fo : Addr) (K : (Str → Option Value) → Prop) (C : List (Int × Int) → Prop) (s' : Shared) : Prop :=
  ∃ h tk fs nf extra dd m₂, s' = { s with heap := h, toks := tk } ∧ Fr g1 L1 h m₂ ∧ News g1 L1 h ((I, o) :: (fo, listOf fs.toArray nf) :: extra) ∧ K m₂ ∧
    (∀ p ∈ news, p ∈ extra) ∧ (∀ p ∈ extra, p.1 ≠ fo) ∧ (∀ p ∈ extra, p.1 ≠ I) ∧ FoundL extra fs dd ∧ C dd

section
variable {g1 : Heap} {L1 : Addr} {s : Shared} {news : Led} {I : Addr} {o : Obj} {fo : Addr} {K : (Str → Option Value) → Prop} {C : List (Int × Int) → Prop} {h' : Heap} {tk : Nat} {fs : List Value} {nf : Nat} {extra : Led} {dd : List (Int × Int)} {m₂ : Str → Option Value}
theorem LFPost.same (F : Fr g1 L1 h' m₂) (N : News g1 L1 h' ((I, o) :: (fo, listOf fs.toArray nf) :: extra)) (hK : K m₂) (hsub : ∀ p ∈ news, p ∈ extra) (hne : ∀ p ∈ extra, p.1 ≠ fo) (hI : ∀ p ∈ extra, p.1 ≠ I) (hfl : FoundL extra fs dd) (hC : C dd) :
    LFPost g1 L1 s news I o fo K C { s with heap := h', toks := tk } := ⟨h', tk, fs, nf, extra, dd, m₂, rfl, F, N, hK, hsub, hne, hI, hfl, hC⟩
theorem LFPost.app {D : Addr} {a b : Int} {ta tb : Tok} (F : Fr g1 L1 h' m₂) (hN : ∀ nx : Led, (∀ p ∈ nx, p ∈ (D, tup [.int a ta, .int b tb] 0) :: (I, o) :: (fo, listOf fs.toArray nf) :: extra ∧ p.1 ≠ fo) → News g1 L1 h' ((fo, listOf (fs.toArray.push (.ref D)) (nf + 1)) :: nx))
    (l1 : ∀ p ∈ (I, o) :: (fo, listOf fs.toArray nf) :: extra, p.1 < D) (hIf : fo ≠ I)
    (hK : K m₂) (hsub : ∀ p ∈ news, p ∈ extra) (hne : ∀ p ∈ extra, p.1 ≠ fo) (hI : ∀ p ∈ extra, p.1 ≠ I) (hfl : FoundL extra fs dd) (hC : C (dd ++ [(a, b)])) :
    LFPost g1 L1 s news I o fo K C { s with heap := h', toks := tk } := by
  have hDf : D ≠ fo := Nat.ne_of_gt (l1 (fo, _) (.tail _ (.head _)))
  have hDI : D ≠ I := Nat.ne_of_gt (l1 (I, _) (.head _))
  have N := hN ((I, o) :: (D, tup [.int a ta, .int b tb] 0) :: extra) (fun p hp => by
    rcases List.mem_cons.mp hp with rfl | hp
    · exact ⟨.tail _ (.head _), Ne.symm hIf⟩
    · rcases List.mem_cons.mp hp with rfl | hp
      · exact ⟨.head _, hDf⟩
      · exact ⟨.tail _ (.tail _ (.tail _ hp)), hne p hp⟩)
  refine ⟨h', tk, fs ++ [.ref D], nf + 1, (D, tup [.int a ta, .int b tb] 0) :: extra, dd ++ [(a, b)], m₂, rfl, F, ?_, hK, fun p hp => .tail _ (hsub p hp), ?_, ?_, .snoc (hfl.mono fun p hp => .tail _ hp) (.head _), hC⟩
  · rw [List.push_toArray] at N
    intro p hp
    rcases List.mem_cons.mp hp with rfl | hp
    · exact N _ (.tail _ (.head _))
    · rcases List.mem_cons.mp hp with rfl | hp
      · exact N _ (.head _)
      · exact N _ (.tail _ (.tail _ hp))
  · intro p hp
    rcases List.mem_cons.mp hp with rfl | hp
    · exact hDf
    · exact hne p hp
  · intro p hp
    rcases List.mem_cons.mp hp with rfl | hp
    · exact hDI
    · exact hI p hp
theorem LFPost.turn {J : (Str → Option Value) → Led → Prop} {Q : Flow → Shared → Prop} {h : Heap} {tk : Nat} {s' : Shared} (H : LFPost g1 L1 s news I o fo K C s') (hIf : fo ≠ I)
    (hJ : ∀ m₂ fs nf extra dd, K m₂ → (∀ p ∈ news, p ∈ extra) → (∀ p ∈ extra, p.1 ≠ fo) → FoundL extra fs dd → C dd → J m₂ ((fo, listOf fs.toArray nf) :: extra)) : TurnK g1 L1 J I o { s with heap := h, toks := tk } Q .next s' := by
  obtain ⟨h', tk', fs, nf, extra, dd, m₂, rfl, F, N, hK, hsub, hne, hI, hfl, hC⟩ := H
  refine ⟨h', tk', m₂, _, rfl, F, N, ?_, hJ m₂ fs nf extra dd hK hsub hne hfl hC⟩
  intro p hp
  rcases List.mem_cons.mp hp with rfl | hp
  · exact hIf
  · exact hI p hp
end

theorem strOk_empty : PySem.PyData.strOk (Str.ofString "") = true := by decide +kernel

local macro_rules | `(tactic| k_all) => `(tactic| assumption)
local macro_rules | `(tactic| k_mem) => `(tactic| assumption)
local macro_rules | `(tactic| walk_at "eval Name") => `(tactic| (k_here; k_dflt (refine' ld ?k1 ?k2 ?_; (case k1 => k_asm); (case k2 => first | exact rfl | assumption); k_whole)))
local macro_rules | `(tactic| walk_at "call type:range") => `(tactic| ((rename Fr _ _ _ _ => F'); (rename News _ _ _ _ => N'); first
  | (refine range1_rows F' N' ?_; intro _ _ _ _ _ _ _ _ _)
  | (refine range2_rows F' N' ?_; intro _ _ _ _ _ _ _ _ _)))
local macro_rules | `(tactic| walk_at "call builtin:len") => `(tactic| (k_here; (with_reducible show wpAny _ _ (call (Value.builtin "len") [Value.ref _]) _ _ _); refine len_rows (by k_asm) (by k_mem) (by assumption) (by assumption) ?_))
local macro_rules | `(tactic| walk_at "subscriptTail Name Name ref int") => `(tactic| (k_here; (refine sub_rows (by k_asm) (by k_mem) (by assumption) (by assumption) (by omega) (by omega) ?_); intro x' n' ta' tb' hx' m1'))
local macro_rules | `(tactic| walk_at "subscriptTail") => `(tactic| (k_here; (refine' item_tupleT ?t ?a ?b ?c ?d ?_; (case t => exact News.isTup (by k_asm) (by k_mem)); (case a => decide); (case b => decide); (case c => rfl); (case d => rfl))))
local macro_rules | `(tactic| walk_at "compareOp Eq ref ref") => `(tactic| (k_here; (refine eq_pair (by k_asm) (by k_mem) (by k_mem) (by first | assumption | exact strOk_empty | exact (‹RowsOk _› _).1) (by first | assumption | exact strOk_empty | exact (‹RowsOk _› _).2) (by first | assumption | exact strOk_empty) (by first | assumption | exact strOk_empty) (by units_room) ?_)))
local macro_rules | `(tactic| walk_at "newTuple") => `(tactic| (k_here; k_dflt (refine' kup_newTuple ?F ?N ?_ ?z; (case F => k_asm); (case N => k_asm); (case z => size_fits)); intro D' h' F' N' l1; (try k_sweep)))
local macro_rules | `(tactic| walk_at "call builtin:list.append") => `(tactic| (k_here; (with_reducible show wpAny _ _ (call (Value.builtin _) [Value.ref _, _]) _ _ _); (refine' append_S ?k1 ?k2 ?k3 ?_ ?z; (case k1 => k_asm); (case k2 => k_asm); (case k3 => k_mem); (case z => (simp only [List.size_toArray]; rw [sizeLine_eq]; omega))); intro h' F' hN'))
local macro_rules | `(tactic| walk_at "my_steps") => `(tactic| repeat' (
  fail_if_success (with_reducible show wpAny _ _ (exec (PySem.Stmt.While _ _ _ _) _) _ _ _);
  fail_if_success (with_reducible show wpAny _ _ (exec (PySem.Stmt.For _ _ _ _ _) _) _ _ _);
  fail_if_success (with_reducible show wpAny _ _ (pyIter _) _ _ _);
  first | (k_unfold; (try dsimp only)) | (k_end; wrow_close) | walk1 | (dsimp only; walk1) | (leave1; walk_say "STEP leave1"; try dsimp only) | fail "no step"))

set_option maxHeartbeats 4000000 in
theorem law_found_ok (prog : Program) (w : World) (lr : Addr) (vs : List Value) (nl : Nat) (R : List (Str × Str)) (name section_ : Str) (tn ts : Tok) (news : Led)
    (hl : (lr, listOf vs.toArray nl) ∈ news) (hp : RowsV news vs R) (hR : R.length ≤ 1000) (hok : RowsOk R) (hn : PySem.PyData.strOk name = true) :
    Calls prog w 143 20 [.ref lr, .str name tn, .str section_ ts] news (fun r news' => (∀ p ∈ news, p ∈ news') ∧ ∃ fo fs nf ds, r = .ref fo ∧ (fo, listOf fs.toArray nf) ∈ news' ∧ FoundL news' fs ds ∧ FoundOf (lawEndSpec R) R name section_ R.length ds) := by
  intro pr loose mean mg mb dp un gd cn cs af ccd cl outer A₀ base h₀ L m s Q E B F X N T hk hd hu hret
  refine wpAny_call ?_
  k_dflt ktr_enter
  rename_i g1 L1 hh1 FG1 Fa Na B1 X1 T1
  walk_at "my_steps"
  rename Fr _ _ _ _ => F1
  refine' For_invVF F1 (by rfl) (by rfl) ?_
  walk_at "my_steps"
  rename Fr _ _ _ _ => F2
  rename News _ _ _ _ => N2
  rename IsRange _ _ _ _ _ _ _ _ => hrg
  refine loop_range R.length (fun i m₁ nx => ∃ fo fs nf extra ds, m₁ (Str.ofString "found") = some (.ref fo) ∧ m₁ (Str.ofString "rows") = some (.ref lr) ∧ m₁ (Str.ofString "name") = some (.str name tn) ∧ m₁ (Str.ofString "section") = some (.str section_ ts) ∧
    nx = (fo, listOf fs.toArray nf) :: extra ∧ (∀ p ∈ news, p ∈ extra) ∧ (∀ p ∈ extra, p.1 ≠ fo) ∧ FoundL extra fs ds ∧ FoundOf (lawEndSpec R) R name section_ i ds) rfl hrg (small_one (by omega) (by omega) (by omega) (by omega)) (by rw [rangeSize_nat]; omega) F2 N2
    ⟨_, [], 0, news, [], rfl, rfl, rfl, rfl, rfl, fun _ h => h, fun p hp => Nat.ne_of_lt (‹∀ p ∈ news, p.1 < _› p hp), .nil, .zero⟩ ?_ ?_
  · rintro i t m₁ nx h tk I o hi hI ⟨fo, fs, nf, extra, ds, hm1, hm2, hm3, hm4, rfl, hsub, hne, hfl, hfo⟩ F₁ N₁
    clear F2 N2 hrg
    have hl' := hsub _ hl
    have hp' := hp.mono hsub
    have hIf : fo ≠ I := hI _ (.head _)
    have hI' : ∀ p ∈ extra, p.1 ≠ I := fun p hp => hI p (.tail _ hp)
    have hfs : fs.length ≤ 1000 := by have := hfl.length; have := hfo.le; omega
    dsimp only [envOf] at F₁ N₁
    rw [Int.zero_add] at F₁
    refine wpAny_execs_cons ?_
    refine wpAny_mono (Q := fun f s' => Cut (f = .next ∧ LFPost g1 L1 s news I o fo (fun m₂ =>
       m₂ (Str.ofString "found") = some (.ref fo) ∧ m₂ (Str.ofString "rows") = some (.ref lr) ∧ m₂ (Str.ofString "name") = some (.str name tn) ∧ m₂ (Str.ofString "section") = some (.str section_ ts) ∧ m₂ (Str.ofString "at") = some (.int i t))
       (fun dd => ∃ ds', dd = ds ++ ds' ∧ ((Cond1 R name section_ i ∧ ds' = [((i : Int), (i : Int))]) ∨ (¬ Cond1 R name section_ i ∧ ds' = []))) s')) ?_ ?_ (fun _ _ x => x)
    · walk_at "my_steps"
      all_goals refine Cut.intro ⟨rfl, ?_⟩
      all_goals first
        | (refine' LFPost.app ?F ?N ?l hIf ?K hsub hne hI' hfl ⟨_, rfl, ?_⟩; (case F => k_asm); (case N => assumption); (case l => assumption); (case K => exact ⟨hm1, hm2, hm3, hm4, rfl⟩))
        | (refine' LFPost.same ?F ?N ?K hsub hne hI' hfl ⟨[], (List.append_nil _).symm, ?_⟩; (case F => k_asm); (case N => k_asm); (case K => exact ⟨hm1, hm2, hm3, hm4, rfl⟩))
      all_goals first
        | exact .inl ⟨cond1_t1 (by assumption) (by assumption) (by assumption), rfl⟩
        | exact .inl ⟨cond1_t2 (by assumption) (by assumption) (by assumption), rfl⟩
        | exact .inr ⟨cond1_f1 (by assumption), rfl⟩
        | exact .inr ⟨cond1_f2 (by assumption), rfl⟩
        | exact .inr ⟨cond1_f3 (by assumption) (by assumption), rfl⟩
    · rintro f s' ⟨rfl, hh, tk2, fs2, nf2, extra2, dd, m₂, rfl, F₃, N₃, ⟨hn1, hn2, hn3, hn4, hn5⟩, hsub2, hne2, hI2, hfl2, ds', rfl, hC⟩
      clear F₁ N₁ hp' hl' hfl hne hI hI' hsub
      have hl' := hsub2 _ hl
      have hp' := hp.mono hsub2
      have hle : ds'.length ≤ 1 := by rcases hC with ⟨_, rfl⟩ | ⟨_, rfl⟩ <;> simp
      have hfs2 : fs2.length ≤ 1000 := by have := hfl2.length; have := hfo.le; rw [List.length_append] at *; omega
      dsimp only
      walk_at "my_steps"
      all_goals try (
        refine LFPost.turn (fo := fo) (C := FoundOf (lawEndSpec R) R name section_ (i + 1)) (K := fun m₂ => m₂ (Str.ofString "found") = some (.ref fo) ∧ m₂ (Str.ofString "rows") = some (.ref lr) ∧ m₂ (Str.ofString "name") = some (.str name tn) ∧ m₂ (Str.ofString "section") = some (.str section_ ts)) ?_ hIf
          (fun m₂ fs nf extra dd hK h1 h2 h3 h4 => ⟨fo, fs, nf, extra, dd, hK.1, hK.2.1, hK.2.2.1, hK.2.2.2, rfl, h1, h2, h3, h4⟩)
        (refine' LFPost.same ?F ?N ?K hsub2 hne2 hI2 hfl2 ?_; (case F => k_asm); (case N => first | k_asm | exact fun p hp => (‹News _ _ _ ((_, _) :: (I, o) :: _)›) p (.tail _ hp)); (case K => exact ⟨hn1, hn2, hn3, hn4⟩))
        refine FoundOf.succ hfo ?_
        have hC2 : ¬ Cond2 R name section_ i := by first | exact cond2_f1 (by assumption) | exact cond2_f2 (by assumption) | exact cond2_f3 (by assumption)
        rcases hC with ⟨hC, rfl⟩ | ⟨hC, rfl⟩
        · exact .inl ⟨hC, rfl⟩
        · exact .inr (.inr ⟨hC, hC2, rfl⟩))
      rename Fr _ _ _ _ => F4
      rename News _ _ _ _ => N4
      have N4' : News g1 L1 _ ((I, o) :: (fo, listOf fs2.toArray nf2) :: extra2) := fun p hp => N4 p (.tail _ hp)
      clear N4
      refine wpAny_mono (Q := fun f s' => Cut (f = .next ∧ ∃ h tk e te m₄, s' = { s with heap := h, toks := tk } ∧ Fr g1 L1 h m₄ ∧ News g1 L1 h ((I, o) :: (fo, listOf fs2.toArray nf2) :: extra2) ∧
        (m₄ (Str.ofString "found") = some (.ref fo) ∧ m₄ (Str.ofString "rows") = some (.ref lr) ∧ m₄ (Str.ofString "name") = some (.str name tn) ∧ m₄ (Str.ofString "section") = some (.str section_ ts) ∧ m₄ (Str.ofString "at") = some (.int i t)) ∧
        m₄ (Str.ofString "end") = some (.int e te) ∧ lawEndSpec R i e)) ?_ ?_ (fun _ _ x => x)
      · refine' For_invVF F4 (by rfl) (by rfl) ?_
        walk_at "my_steps"
        rename Fr _ _ _ _ => F5
        rename News _ _ _ _ => N5
        rename IsRange _ _ _ _ _ _ _ _ => hrg2
        refine loop_range (R.length - (i + 1)) (fun i2 m nx => nx = (I, o) :: (fo, listOf fs2.toArray nf2) :: extra2 ∧
          (m (Str.ofString "found") = some (.ref fo) ∧ m (Str.ofString "rows") = some (.ref lr) ∧ m (Str.ofString "name") = some (.str name tn) ∧ m (Str.ofString "section") = some (.str section_ ts) ∧ m (Str.ofString "at") = some (.int i t)) ∧
          (∃ e te, m (Str.ofString "end") = some (.int e te) ∧ e = i + i2) ∧ ∀ k : Int, i < k → k ≤ i + i2 → nm R k ≠ Str.ofString "") rfl hrg2 (small_one (by omega) (by omega) (by omega) (by omega)) (by rw [rangeSize_nat]; omega) F5 N5
          ⟨rfl, ⟨hn1, hn2, hn3, hn4, hn5⟩, ⟨_, _, rfl, by omega⟩, fun k h1 h2 => by omega⟩ ?_ ?_
        · rintro i2 t2 m nx h9 tk9 I2 o2 hi2 hI2 ⟨rfl, ⟨hq1, hq2, hq3, hq4, hq5⟩, ⟨e, te, hq6, rfl⟩, hall⟩ F6 N6
          dsimp only [envOf] at F6 N6
          walk_at "my_steps"
          · rename Fr _ _ _ _ => F7
            refine Cut.intro ⟨rfl, _, _, _, te, _, rfl, F7, fun p hp => N6 p (.tail _ hp), ⟨hq1, hq2, hq3, hq4, hq5⟩, hq6, by omega, by omega, hall, fun _ => ?_⟩
            rw [show (i : Int) + i2 + 1 = i + 1 + i2 by omega]
            exact eq_of_beq (by assumption)
          · refine' turnk_next ?F ?N ?I ?J
            case F => k_asm
            case N => k_asm
            case I => exact hI2
            case J =>
              refine ⟨rfl, ⟨hq1, hq2, hq3, hq4, hq5⟩, ⟨_, _, rfl, by omega⟩, fun k h1 h2 => ?_⟩
              by_cases hk : k ≤ i + i2
              · exact hall k h1 hk
              · rw [show k = (i : Int) + 1 + i2 by omega]
                exact ne_of_beq_false (by assumption)
        · rintro m nx h9 tk9 ⟨rfl, hq, ⟨e, te, hq6, rfl⟩, hall⟩ F6 N6
          exact Cut.intro ⟨rfl, h9, tk9, _, te, m, rfl, F6, N6, hq, hq6, by omega, by omega, fun k h1 h2 => hall k h1 (by omega), fun hh => by omega⟩
      · rintro f s' ⟨rfl, h9, tk9, e, te, m₄, rfl, F6, N6, ⟨hq1, hq2, hq3, hq4, hq5⟩, hq6, hspec⟩
        dsimp only
        try clear F4 N4'
        walk_at "my_steps"
        refine LFPost.turn (fo := fo) (C := FoundOf (lawEndSpec R) R name section_ (i + 1)) (K := fun m₂ => m₂ (Str.ofString "found") = some (.ref fo) ∧ m₂ (Str.ofString "rows") = some (.ref lr) ∧ m₂ (Str.ofString "name") = some (.str name tn) ∧ m₂ (Str.ofString "section") = some (.str section_ ts)) ?_ hIf
          (fun m₂ fs nf extra dd hK h1 h2 h3 h4 => ⟨fo, fs, nf, extra, dd, hK.1, hK.2.1, hK.2.2.1, hK.2.2.2, rfl, h1, h2, h3, h4⟩)
        (refine' LFPost.app ?F ?N ?l hIf ?K hsub2 hne2 hI2 hfl2 ?_; (case F => k_asm); (case N => assumption); (case l => assumption); (case K => exact ⟨hq1, hq2, hq3, hq4⟩))
        have hC2 : Cond2 R name section_ i := cond2_t (by assumption) (by assumption) (by assumption)
        rcases hC with ⟨hC, rfl⟩ | ⟨hC, rfl⟩
        · exact absurd hC2 (cond_not (P := lawEndSpec R) hC)
        · rw [List.append_nil]
          exact FoundOf.succ hfo (.inr (.inl ⟨hC2, e, hspec, rfl⟩))
  · rintro m₁ nx h tk ⟨fo, fs, nf, extra, ds, hm1, hm2, hm3, hm4, rfl, hsub, hne, hfl, hfo⟩ F₁ N₁
    clear F2 N2 hrg
    dsimp only [envOf] at F₁ N₁
    walk_at "my_steps"
    exact hret _ _ _ _ (by k_asm) (by k_asm) ⟨fun p hp => .tail _ (hsub p hp), fo, fs, nf, ds, rfl, .head _, hfl.mono (fun p hp => .tail _ hp), hfo⟩
end Mine
end
section
namespace Mine

theorem News.tl {h₀ h : Heap} {L : Addr} {q : Addr × Obj} {l : Led} (N : News h₀ L h (q :: l)) : News h₀ L h l := fun p hp => N p (.tail _ hp)
theorem Pars.mono {news news' : Led} {vs : List Value} {R : List (Str × Str)} (h : Pars news vs R) (hs : ∀ p ∈ news, p ∈ news') : Pars news' vs R :=
  ⟨h.1, fun k h0 h1 => let ⟨x, body, e, dx, c1, c2, c3, k1, k2, k3, ta, tb, n, a, b⟩ := h.2 k h0 h1; ⟨x, body, e, dx, c1, c2, c3, k1, k2, k3, ta, tb, n, hs _ a, hs _ b⟩⟩
theorem ProcAt.mono {news news' : Led} {p lr : Addr} {u : Value} (h : ProcAt news p lr u) (hs : ∀ q ∈ news, q ∈ news') : ProcAt news' p lr u :=
  let ⟨dp, c1, c2, k1, k2, n, a, b⟩ := h; ⟨dp, c1, c2, k1, k2, n, hs _ a, hs _ b⟩

section
variable {prog : Program} {w : World} {A : Around} {E : Value → Shared → Prop} {s : Shared} {h₀ : Heap} {L : Addr} {news : Led}
theorem len_pars' {l : Addr} {vs : List Value} {n : Nat} {R : List (Str × Str)} {news₁ : Led} {Q : Value → Shared → Prop} (N : News h₀ L s.heap news) (hm : (l, listOf vs.toArray n) ∈ news) (hp : Pars news₁ vs R) (hR : R.length ≤ 1000)
    (h : Q (.int (R.length : Nat) (s.toks + 1)) { s with toks := s.toks + 1 + 1 }) : wpAny (model prog w) A (call (.builtin "len") [.ref l]) Q E s := by
  have e : vs.toArray.size = R.length := by simp [hp.1]
  refine Calls.call_len_list (News.isList N hm) (by omega) ?_
  rw [e]
  exact h
theorem sub_pars' {value slice : Expr} {l : Addr} {vs : List Value} {n : Nat} {R : List (Str × Str)} {k : Int} {u : Tok} {news₁ : Led} {Q : Value → Shared → Prop} (N : News h₀ L s.heap news) (hm : (l, listOf vs.toArray n) ∈ news) (hp : Pars news₁ vs R) (hR : R.length ≤ 1000)
    (h0 : 0 ≤ k) (h1 : k < R.length)
    (h : ∀ x dx c1 c2 c3 k1 k2 k3 ta tb n body, vs[k.toNat]? = some (.ref x) → (x, instObj 79 dx) ∈ news₁ → (dx, dictOf [⟨c1, .str "name" k1, .str (nm R k) ta⟩, ⟨c2, .str "section" k2, .str (sec R k) tb⟩, ⟨c3, .str "statements" k3, body⟩] n) ∈ news₁ → Q (.ref x) s)
    (hs : subscripted slice false (.ref l) (.int k u) = operate [.ref l, .int k u] (getItem (.ref l) (.int k u)) := by with_unfolding_all rfl) :
    wpAny (model prog w) A (subscriptTail value slice (.ref l) (.int k u)) Q E s := by
  obtain ⟨x, body, hx, dx, c1, c2, c3, k1, k2, k3, ta, tb, n', m1, m2⟩ := hp.2 k h0 h1
  exact tail_any (News.isList N hm).typeIs slot_list_getitem.lookup (wpAny_getItem_list (News.isList N hm) h0 (by omega) (by simpa using hx) (h x dx c1 c2 c3 k1 k2 k3 ta tb n' body hx m1 m2)) hs
end

section
variable {g1 : Heap} {L1 : Addr} {s : Shared} {news : Led} {I : Addr} {o : Obj} {fo : Addr} {K : (Str → Option Value) → Prop} {C : List (Int × Int) → Prop} {h' : Heap} {tk : Nat} {fs : List Value} {nf : Nat} {extra : Led} {dd : List (Int × Int)} {m₂ : Str → Option Value}
theorem LFPost.app2 {D : Addr} {a b : Int} {ta tb : Tok} {big : Led} (F : Fr g1 L1 h' m₂) (hN : ∀ nx : Led, (∀ p ∈ nx, p ∈ (D, tup [.int a ta, .int b tb] 0) :: big ∧ p.1 ≠ fo) → News g1 L1 h' ((fo, listOf (fs.toArray.push (.ref D)) (nf + 1)) :: nx))
    (l1 : ∀ p ∈ big, p.1 < D) (hb : ∀ p ∈ (I, o) :: (fo, listOf fs.toArray nf) :: extra, p ∈ big) (hIf : fo ≠ I)
    (hK : K m₂) (hsub : ∀ p ∈ news, p ∈ extra) (hne : ∀ p ∈ extra, p.1 ≠ fo) (hI : ∀ p ∈ extra, p.1 ≠ I) (hfl : FoundL extra fs dd) (hC : C (dd ++ [(a, b)])) :
    LFPost g1 L1 s news I o fo K C { s with heap := h', toks := tk } :=
  LFPost.app F (fun nx hnx => hN nx fun p hp => ⟨(List.mem_cons.mp (hnx p hp).1).elim (fun e => e ▸ .head _) fun h => .tail _ (hb p h), (hnx p hp).2⟩) (fun p hp => l1 p (hb p hp)) hIf hK hsub hne hI hfl hC
end
section
variable {R : List (Str × Str)} {name section_ : Str} {k : Int}
theorem cond1_i (h1 : (nm R k == name) = true) (h2 : (name != Str.ofString "") = true) (h3 : ([Str.ofString "", sec R k].any fun x => x == section_) = true) : Cond1 R name section_ k := by
  refine ⟨bne_iff_ne.mp h2, eq_of_beq h1, ?_⟩
  simp only [List.any_cons, List.any_nil, Bool.or_false, Bool.or_eq_true, beq_iff_eq] at h3
  rcases h3 with h | h
  · exact .inl h.symm
  · exact .inr h
theorem cond1_if (h3 : ([Str.ofString "", sec R k].any fun x => x == section_) = false) : ¬ Cond1 R name section_ k := fun h => by
  simp only [List.any_cons, List.any_nil, Bool.or_false, Bool.or_eq_false_iff] at h3
  rcases h.2.2 with e | e
  · exact absurd e.symm (ne_of_beq_false h3.1)
  · exact absurd e (ne_of_beq_false h3.2)
theorem cond2_c (h1 : (nm R k == Str.ofString "") = true) (h2 : (sec R k == name) = true) (h3 : (name != Str.ofString "") = true) (h4 : (section_ == Str.ofString "") = true) : Cond2 R name section_ k := ⟨bne_iff_ne.mp h3, eq_of_beq h1, eq_of_beq h2, eq_of_beq h4⟩
theorem cond2_cf1 (h1 : (nm R k == Str.ofString "") = false) : ¬ Cond2 R name section_ k := fun h => absurd h.2.1 (ne_of_beq_false h1)
theorem cond2_cf2 (h1 : (sec R k == name) = false) : ¬ Cond2 R name section_ k := fun h => absurd h.2.2.1 (ne_of_beq_false h1)
end

theorem Calls.use {prog : Program} {w : World} {f : Addr} {k : Nat} {vs : List Value} {news : Led} {Post : Value → Led → Prop} {p : Program} {loose : List Str} {mean : ExcName → Option Value} {mg mb : Str → Option Value} {dp un : Nat} {gd : Option (List Code)} {cn : Str} {cs : Scope} {a : Addr} {ccd : Value} {cl : List (Str × Addr)} {outer : List Env} {A₀ : Around} {base h₀ : Heap} {L : Addr} {m : Str → Option Value} {s : Shared} {Q E : Value → Shared → Prop}
    (C : Calls prog w f k vs news Post) (B : Below A₀ base outer h₀) (F : Fr h₀ L s.heap m) (X : (Mine.hd.heap_39 w.params).In h₀) (N : News h₀ L s.heap news) (T : Top p loose mean mg mb h₀) (hk : cs.kind = .function)
    (hd : dp + k < recursionLimit) (hu : un + 8 * k < cLine)
    (ret : ∀ r h' tk' news', Fr h₀ L h' m → News h₀ L h' news' → Post r news' → Q r { s with heap := h', toks := tk' }) :
    wpAny (model prog w) (ktrTop dp un gd cn cs L a ccd cl outer) (call (.ref f) vs) Q E s := C p loose mean mg mb dp un gd cn cs a ccd cl outer A₀ base h₀ L m s Q E B F X N T hk hd hu ret

local macro_rules | `(tactic| k_all) => `(tactic| assumption)
local macro_rules | `(tactic| k_mem) => `(tactic| assumption)
local macro_rules | `(tactic| walk_at "eval Name") => `(tactic| (k_here; k_dflt (refine' ld ?k1 ?k2 ?_; (case k1 => k_asm); (case k2 => first | exact rfl | assumption); k_whole)))
local macro_rules | `(tactic| walk_at "call type:range") => `(tactic| ((rename Fr _ _ _ _ => F'); (rename News _ _ _ _ => N'); first
  | (refine range1_rows F' N' ?_; intro _ _ _ _ _ _ _ _ _)
  | (refine range2_rows F' N' ?_; intro _ _ _ _ _ _ _ _ _)))
local macro_rules | `(tactic| walk_at "call builtin:len") => `(tactic| (k_here; (with_reducible show wpAny _ _ (call (Value.builtin "len") [Value.ref _]) _ _ _); refine len_pars' (by k_asm) (by k_mem) (by assumption) (by assumption) ?_))
local macro_rules | `(tactic| walk_at "subscriptTail Name Name ref int") => `(tactic| (k_here; (refine sub_pars' (by k_asm) (by k_mem) (by assumption) (by assumption) (by omega) (by omega) ?_); intro x' dx' c1' c2' c3' k1' k2' k3' ta' tb' n' body' hx' m1' m2'))
local macro_rules | `(tactic| walk_at "newTuple") => `(tactic| (k_here; k_dflt (refine' kup_newTuple ?F ?N ?_ ?z; (case F => k_asm); (case N => k_asm); (case z => size_fits)); intro D' h' F' N' l1; (try k_sweep)))
local macro_rules | `(tactic| walk_at "call builtin:list.append") => `(tactic| (k_here; (with_reducible show wpAny _ _ (call (Value.builtin _) [Value.ref _, _]) _ _ _); (refine' append_S ?k1 ?k2 ?k3 ?_ ?z; (case k1 => k_asm); (case k2 => k_asm); (case k3 => k_mem); (case z => (simp only [List.size_toArray]; rw [sizeLine_eq]; omega))); intro h' F' hN'))
local macro_rules | `(tactic| walk_at "my_steps") => `(tactic| repeat' (
  fail_if_success (with_reducible show wpAny _ _ (exec (PySem.Stmt.While _ _ _ _) _) _ _ _);
  fail_if_success (with_reducible show wpAny _ _ (exec (PySem.Stmt.For _ _ _ _ _) _) _ _ _);
  fail_if_success (with_reducible show wpAny _ _ (exec (PySem.Stmt.Raise _ _ _) _) _ _ _);
  fail_if_success (with_reducible show wpAny _ _ (pyIter _) _ _ _);
  fail_if_success (with_reducible show wpAny _ _ (call (Value.ref 109) _) _ _ _);
  first | (k_unfold; (try dsimp only)) | (k_end; wrow_close) | walk1 | (dsimp only; walk1) | (leave1; walk_say "STEP leave1"; try dsimp only) | fail "no step"))
local macro_rules | `(tactic| walk_at "my_stepsI") => `(tactic| repeat' (
  fail_if_success (with_reducible show wpAny _ _ (exec (PySem.Stmt.If _ _ _ _) _) _ _ _);
  first | (k_unfold; (try dsimp only)) | (k_end; wrow_close) | walk1 | (dsimp only; walk1) | (leave1; walk_say "STEP leave1"; try dsimp only) | fail "no step"))

end Mine
end
section
namespace Mine

abbrev excObj (C t : Addr) (d : Option Addr) : Obj := { cls := .ref C, dict := d, data := .fields #[.ref t, .none, .none, .none, .bool false, .none] }

section
variable {M : Model} {A : Around} {E : Value → Shared → Prop} {h : Heap} {g : Array GenState} {d : Drawn} {t : Nat} {os : OsState}
variable {nm q : Str} {C N : Addr} {bs bm : List Value} {hdct : Bool} {sn : List Str} {sub : List Value} {ab : Bool} {col : Option Bool} {dd : Option Addr} {k0 k1 k2 k3 k5 : Option Value}
theorem check_new_own (hB : bm.contains (.type "Exception") = true) {rest : List Value} {Q : Unit → Shared → Prop} (hC : h.get? C = some (excClassObj nm q C N bs bm hdct sn sub ab col dd k0 k1 k2 k3 k5 "Exception.__new__"))
    (hq : Q () ⟨h, g, d, t, os⟩) : wpAny M A (checkBuiltinCall "Exception.__new__" ⟨.ref C :: rest, []⟩) Q E ⟨h, g, d, t, os⟩ := by
  have F := PySem.F.excBase_Exception
  have hcont : (Value.ref C :: bm).contains (.type "Exception") = true := by rw [List.contains_cons, hB, Bool.or_true]
  have hstar := F.noStar
  simp only [checkBuiltinCall, F.newKind, F.newSplit, F.newRow]
  repeat (first | refine wpAny_loadPart_at hC ?_ | (refine wpAny_isSubtype_exc hC ?_; rw [hcont]) | refine wpAny_staticBase_exc hC ?_ | refine wpAny_madeBy_exc hC ?_ | simp only [bne_self_eq_false, Bool.false_eq_true, if_false] | wp_step)
  exact hq
end
section
variable {prog : Program} {w : World} {A : Around} {R : Result → Shared → Prop} {h : Heap} {g : Array GenState} {d : Drawn} {t : Nat} {os : OsState}
variable {nm q : Str} {C N : Addr} {bs bm : List Value} {hdct : Bool} {sn : List Str} {sub : List Value} {ab : Bool} {col : Option Bool} {dd : Option Addr} {k0 k1 k2 k3 k5 : Option Value}
theorem exc_new_own (hB : bm.contains (.type "Exception") = true) (hA : bm.contains (.type "AttributeError") = false) (hN : bm.contains (.type "NameError") = false) {rest : List Value} (hC : h.get? C = some (excClassObj nm q C N bs bm hdct sn sub ab col dd k0 k1 k2 k3 k5 "Exception.__new__"))
    (hq : R (.ok (.ret (.ref (h.objs.size + 1)))) ⟨(h.push { cls := .type "tuple", data := .seq rest.toArray }).push (excObj C h.objs.size none), g, d, t, os⟩) (hrest : rest.length ≤ sizeLine) :
    codeAny (model prog w) A (.builtin "Exception.__new__" ⟨.ref C :: rest, []⟩) R ⟨h, g, d, t, os⟩ := by
  have F := PySem.F.excBase_Exception
  have hends := F.ends
  have hcB : (Value.ref C :: bm).contains (.type "Exception") = true := by rw [List.contains_cons, hB, Bool.or_true]
  have hcA : (Value.ref C :: bm).contains (.type "AttributeError") = false := by rw [List.contains_cons, hA]; rfl
  have hcN : (Value.ref C :: bm).contains (.type "NameError") = false := by rw [List.contains_cons, hN]; rfl
  refine codeAny_builtinAt F.entry ?_
  unfold Builtin.«BaseException.__new__»
  refine PySem.wpAt_bind ?_
  show PySem.wpAt _ _ _ (stack >>= _) _ _ _
  refine PySem.wpAt_bind (PySem.wpAt_stack fun p below => PySem.wpAt_of_wpAny ?_)
  wp_walk
  refine PySem.wpAt_of_wpAny ?_
  rw [F.owner]
  repeat (first | with_reducible refine wpAny_madeHere_exc F.canon hC ?_ | with_reducible refine wpAny_loadPart_at hC ?_ | (with_reducible refine wpAny_isSubtype_exc hC ?_; first | rw [hcB] | rw [hcA] | rw [hcN]) | wp_step)
  show R _ _
  rw [Heap.size_push]
  exact hq
end

section
variable {prog : Program} {w : World} {A : Around} {R : Result → Shared → Prop} {K : Frag} {h : Heap} {g : Array GenState} {d : Drawn} {t : Nat} {os : OsState}
variable {nm q : Str} {C N fI : Addr} {bs bm : List Value} {hdct : Bool} {sn : List Str} {sub : List Value} {ab : Bool} {col : Option Bool} {dd : Option Addr} {k0 k1 k2 k3 k5 : Option Value}
theorem exc_make_core {rest : List Value} (X : K.In h) (ho : K.lookup C = some (excClassObj nm q C N bs bm hdct sn sub ab col dd k0 k1 k2 k3 k5 "Exception.__new__"))
    (hB : bm.contains (.type "Exception") = true) (hA : bm.contains (.type "AttributeError") = false) (hN : bm.contains (.type "NameError") = false)
    (hi : findIn K (.ref C) "__init__" = some (some (.ref fI))) (hf : typeIn K (.ref fI) = some (.type "function")) (hrest : rest.length ≤ sizeLine)
    (hq : codeAny (model prog w) (A.under (.builtin "type.__call__" ⟨.ref C :: rest, []⟩)) (.call (.ref fI) ⟨.ref (h.objs.size + 1) :: rest, []⟩) (InitBack (h.objs.size + 1) R)
      ⟨(h.push { cls := .type "tuple", data := .seq rest.toArray }).push (excObj C h.objs.size none), g, d, t, os⟩) :
    codeAny (model prog w) A (.call (.ref C) ⟨rest, []⟩) R ⟨h, g, d, t, os⟩ := by
  have hC := X _ _ ho
  have F := PySem.F.excBase_Exception
  have f1 := tc_lookup
  have f2 := tc_bind (.ref C)
  have hT : (⟨h, g, d, t, os⟩ : Shared).TypeIs (.ref C) "type" := ⟨_, hC, rfl⟩
  refine codeAny_of_tree ?_
  show wpAny _ _ (callAny (.ref C) _) _ _ _
  repeat (any_goals (first | assumption | with_reducible refine wpAny_loadPart_at hC ?_ | wp_step))
  refine ⟨rfl, ?_⟩
  refine codeAny_call_builtin_at (Code.quiet_builtin _ (by decide +kernel)) entry_typeCall (wpAny_check_type_call_sub hC ?_)
  unfold Builtin.«type.__call__»
  repeat (first | with_reducible refine wpAny_loadPart_at hC ?_ | with_reducible refine wpAny_madeBy_exc hC ?_ | wp_step)
  refine codeAny_call_builtin_code (Code.quiet_builtin _ F.quiet) (check_new_own hB hC ?_)
  refine exc_new_own hB hA hN hC ?_ hrest
  show wpAny _ _ _ _ _ _
  have hC₁ := Heap.get?_push_of_some (excObj C h.objs.size none) (Heap.get?_push_of_some { cls := .type "tuple", data := .seq rest.toArray } hC)
  have hget : ((h.push { cls := .type "tuple", data := .seq rest.toArray }).push (excObj C h.objs.size none)).get? (h.objs.size + 1) = some (excObj C h.objs.size none) := by heap_get
  have hcC : (Value.ref C :: bm).contains (.ref C) = true := by simp
  have k : ∀ b o, h.get? b = some o → ((h.push { cls := .type "tuple", data := .seq rest.toArray }).push (excObj C h.objs.size none)).get? b = some o := fun b o e => Heap.get?_push_of_some _ (Heap.get?_push_of_some _ e)
  have i1 : Looks (model prog w) _ (typeLookup (.ref C) "__init__") (some (.ref fI)) := (looks_findIn X hi).keeps k
  have b1 := (bind_fn (M := model prog w) X (.ref (h.objs.size + 1)) hf).keeps k
  have s1 : Looks (model prog w) ((h.push { cls := .type "tuple", data := .seq rest.toArray }).push (excObj C h.objs.size none)) (isSubtype (.ref C) (.ref C)) true := fun A Q E s kk hq => by
    obtain ⟨hs, gs, ds, ts, oss⟩ := s
    refine wpAny_isSubtype_exc (kk _ _ hC₁) ?_
    rw [hcC]; exact hq
  have t1 : Looks (model prog w) ((h.push { cls := .type "tuple", data := .seq rest.toArray }).push (excObj C h.objs.size none)) (typeOf (.ref (h.objs.size + 1))) (.ref C) := (Looks.ld hget).andThen .now
  unfold isInstance callSpecial? specialOf
  change wpAny _ _ _ _ _ ⟨(h.push { cls := .type "tuple", data := .seq rest.toArray }).push (excObj C h.objs.size none), g, d, t, os⟩
  repeat (first | simp only [hcC, Bool.not_true, Bool.false_eq_true, if_false] | with_reducible refine wpAny_call ?_ | lk)
  refine codeAny_mono hq fun r s' z => ?_
  rcases r with e | (v | _ | _ | _) <;> first | exact z | exact z.elim | skip
  obtain ⟨rfl, z⟩ := z
  exact wpAny_pure (wpAny_pure z)
end

section
variable {prog : Program} {w : World} {A : Around} {E : Value → Shared → Prop} {s : Shared} {K : Frag} {h₀ : Heap} {L : Addr} {m : Str → Option Value} {news : Led}
variable {nm q : Str} {C NN fI : Addr} {bs bm : List Value} {hdct : Bool} {sn : List Str} {sub : List Value} {ab : Bool} {col : Option Bool} {dd : Option Addr} {k0 k1 k2 k3 k5 : Option Value}
/-- a call of an own exception class with an __init__ of its own -/
theorem exc_make {args : List Value} {Q : Value → Shared → Prop} (F : Fr h₀ L s.heap m) (N : News h₀ L s.heap news) (X₀ : K.In h₀) (ho : K.lookup C = some (excClassObj nm q C NN bs bm hdct sn sub ab col dd k0 k1 k2 k3 k5 "Exception.__new__"))
    (hB : bm.contains (.type "Exception") = true) (hA : bm.contains (.type "AttributeError") = false) (hN : bm.contains (.type "NameError") = false)
    (hi : findIn K (.ref C) "__init__" = some (some (.ref fI))) (hf : typeIn K (.ref fI) = some (.type "function")) (hrest : args.length ≤ sizeLine)
    (h : ∀ e t h', Fr h₀ L h' m → News h₀ L h' ((e, excObj C t none) :: (t, tup args 0) :: news) → (∀ p ∈ news, p.1 < t) → t < e →
      codeAny (model prog w) (A.under (.builtin "type.__call__" ⟨.ref C :: args, []⟩)) (.call (.ref fI) ⟨.ref e :: args, []⟩) (InitBack e fun r s' => match r with | .ok (.ret v) => Q v s' | .ok _ => False | .error e => E e s') { s with heap := h' }) :
    wpAny (model prog w) A (call (.ref C) args) Q E s := by
  refine wpAny_call ?_
  obtain ⟨hh, g, d, t, os⟩ := s
  refine exc_make_core (X₀.keeps F.keep) ho hB hA hN hi hf hrest (h _ hh.objs.size _ ((F.push _).push _) ?_ (fun p hp => Heap.lt_size (N p hp).1) (Nat.lt_succ_self _))
  have := (N.push F (tup args 0)).push (F.push _) (excObj C hh.objs.size none)
  rwa [Heap.size_push] at this
end
end Mine
end
section
namespace Mine

theorem meta_Exc : typeOf (.type "Exception") = pure (.type "type") := by kernel_rfl
section
variable {M : Model} {A : Around} {E : Value → Shared → Prop} {h : Heap} {g : Array GenState} {d : Drawn} {t : Nat} {os : OsState}
variable {nm q : Str} {C N : Addr} {bs bm : List Value} {hdct : Bool} {sn : List Str} {sub : List Value} {ab : Bool} {col : Option Bool} {dd : Option Addr} {k0 k1 k2 k3 k5 : Option Value} {newId : String}
theorem check_ei (hB : bm.contains (.type "Exception") = true) {e : Addr} {oe : Obj} {rest : List Value} {Q : Unit → Shared → Prop}
    (hC : h.get? C = some (excClassObj nm q C N bs bm hdct sn sub ab col dd k0 k1 k2 k3 k5 newId)) (he : h.get? e = some oe) (hcls : oe.cls = .ref C) (hq : Q () ⟨h, g, d, t, os⟩) :
    wpAny M A (checkBuiltinCall "Exception.__init__" ⟨.ref e :: rest, []⟩) Q E ⟨h, g, d, t, os⟩ := by
  have F := PySem.F.excBase_Exception
  have hcB : (Value.ref C :: bm).contains (.type "Exception") = true := by rw [List.contains_cons, hB, Bool.or_true]
  have hshort := F.noStar
  simp only [checkBuiltinCall, F.initKind, F.initSplit, F.initRow]
  repeat (first | (with_reducible refine wpAny_loadPart_at he ?_; rw [hcls]) | with_reducible refine wpAny_loadPart_at hC ?_ | (with_reducible refine wpAny_isSubtype_exc hC ?_; rw [hcB]) | wp_step)
  refine wpAny_onRaise ?_
  rw [show ∀ (a b : String) (n : Nat), Bind.check ⟨.positional, "*", "Exception", .self, [⟨"args", .varPos, false⟩]⟩ a b n (List.map (fun x => x.fst) ({ pos := Value.ref e :: rest } : Args).kw) = pure () from
    fun a b n => check_star_args _ _ _ _ _ _]
  exact wpAny_pure hq
end

section
variable {prog : Program} {w : World} {A : Around} {E : Value → Shared → Prop} {s : Shared} {K : Frag} {h₀ : Heap} {L : Addr} {m : Str → Option Value} {C t e : Addr} {od : Option Addr} {news : Led} {x : Value}
variable {nm q : Str} {NN : Addr} {bs bm : List Value} {hdct : Bool} {sn : List Str} {sub : List Value} {ab : Bool} {col : Option Bool} {dd : Option Addr} {k0 k1 k2 k3 k5 : Option Value} {newId : String}
set_option maxHeartbeats 4000000 in
theorem exc_init {Q : Value → Shared → Prop} (F : Fr h₀ L s.heap m) (N : News h₀ L s.heap ((e, excObj C t od) :: news)) (X₀ : K.In h₀) (hne : ∀ p ∈ news, p.1 ≠ e)
    (ho : K.lookup C = some (excClassObj nm q C NN bs bm hdct sn sub ab col dd k0 k1 k2 k3 k5 newId)) (hB : bm.contains (.type "Exception") = true)
    (h : ∀ t' h', Fr h₀ L h' m → News h₀ L h' ((e, excObj C t' od) :: (t', tup [x] 0) :: news) → (∀ p ∈ (e, excObj C t od) :: news, p.1 < t') → Q .none { s with heap := h' }) :
    wpAny (model prog w) A (call (.builtin "Exception.__init__") [.ref e, x]) Q E s := by
  have FE := PySem.F.excBase_Exception
  have he : s.heap.get? e = some (excObj C t od) := (N _ (.head _)).1
  have hC : s.heap.get? C = some _ := (X₀.keeps F.keep) _ _ ho
  have F2 := F.push (tup [x] 0)
  have N2 := N.push F (tup [x] 0)
  have hte : s.heap.objs.size ≠ e := Nat.ne_of_gt (Heap.lt_size he)
  have eo : Obj.mapFields (·.setIfInBounds 0 (.ref s.heap.objs.size)) (excObj C t od) = excObj C s.heap.objs.size od := rfl
  obtain ⟨F3, N3⟩ := news_upd (f := Obj.mapFields (·.setIfInBounds 0 (.ref s.heap.objs.size))) (o' := excObj C s.heap.objs.size od) (pre := [(s.heap.objs.size, tup [x] 0)]) F2 N2 (fun p hp => by rw [List.mem_singleton.mp hp]; exact hte) hne eo rfl
  have he2 : (s.heap.push (tup [x] 0)).get? e = some (excObj C t od) := Heap.get?_push_of_some _ he
  have fin := h s.heap.objs.size _ F3 (fun p hp => N3 p (by
    rcases List.mem_cons.mp hp with rfl | hp
    · exact .tail _ (.head _)
    · rcases List.mem_cons.mp hp with rfl | hp
      · exact .head _
      · exact .tail _ (.tail _ hp))) (fun p hp => Heap.lt_size (N p hp).1)
  obtain ⟨hh, g, d, tk, os⟩ := s
  refine wpAny_call (codeAny_call_builtin FE.init.plain FE.initEntry (check_ei hB hC he rfl ?_))
  unfold Builtin.«BaseException.__init__»
  wp_walk
  exact fin
end

section
variable {prog : Program} {w : World} {A : Around} {K : Frag} {C x : Addr} {s : Shared} {h₀ : Heap} {L : Addr} {m : Str → Option Value} {R : Result → Shared → Prop}
open PySem.Builtin PySem.Builtin.ObjectAttr
theorem osa_openX {ox : Obj} {od : Option Obj} {name : Str} {tk : Tok} {v : Value} {r : Option Value} {cd : ClassData} (X : K.In s.heap) (I : InstAt s.heap x ox C od) (hc : clsIn K C = some cd) (hpass : refuseLoop (.ref x) "__setattr__" cd.mro = pure ())
    (hso : subIn K (.ref C) (.type "object") = some true) (ht : takerIn K C name = some r)
    (h : ∀ b, wpAny (model prog w) A.in1 (match r with | some a => setByDescriptor a (.ref x) v | none => storeInOwnDict (.ref x) (.ref C) (.str name tk) name v b)
      (fun fin s' => match fin with | .done f => R (.ok f) s' | .again c' => c'.quiet = true ∧ codeAny (model prog w) A c' R s') (fun e s' => R (.error e) s') s) :
    codeAny (model prog w) A (.call (.builtin "object.__setattr__") ⟨[.ref x, .str name tk, v], []⟩) R s := by
  have SF := PySem.F.store_object
  have sub : Looks (model prog w) s.heap (isInstance (.ref x) (.type "object")) true := I.type.andThen (looks_subIn X hso)
  refine codeAny_call_builtin SF.slot.plain SF.entry (@check_slot (model prog w) _ _ s "object.__setattr__" "object" "__setattr__" (.ref x) [.str name tk, v] [] _ SF.kind SF.split sub (SF.args (.ref x) (.str name tk) v) ?_)
  obtain ⟨attr, ha, hr⟩ := Option.bind_eq_some_iff.mp ht
  have hm : Looks (model prog w) s.heap (mroOf (.ref C)) cd.mro := (looks_clsIn X hc).andThen .now
  have L3 : Looks (model prog w) s.heap (storeTaker? attr) r := by
    cases attr with
    | none => cases hr; exact .now
    | some a =>
      obtain ⟨b, hb, rfl⟩ := Option.map_eq_some_iff.mp hr
      refine (looks_takesIn X hb).andThen ?_
      cases b <;> exact .now
  rw [osa_eq, refuse_eq]
  refine wpAny_bind (wpAny_bind (I.type.here (wpAny_bind (hm.here ?_))))
  rw [hpass]
  refine wpAny_pure (wpAny_bind (I.type.here (wpAny_bind ((looks_findIn X ha).here (wpAny_bind (L3.here ?_))))))
  exact h _

theorem exc_pass {C C2 : Addr} (self : Value) : refuseLoop self "__setattr__" [.ref C, .ref C2, .type "Exception", .type "BaseException", .type "object"] = pure () := by
  rw [refuseLoop_ref, refuseLoop_ref]
  exact PySem.F.store_Exception.passes self

theorem store_dict {E : Value → Shared → Prop} {dx : Addr} {name : Str} {tk : Tok} {v : Value} {pre post : Led} {es es' : List DictEntry} {n n' : Nat} {Q : PySem.Fin → Shared → Prop} (F : Fr h₀ L s.heap m) (N : News h₀ L s.heap (pre ++ (dx, dictOf es n) :: post))
    (hl : (getL name es).isSome = true) (h1 : ∀ p ∈ pre, p.1 ≠ dx) (h2 : ∀ p ∈ post, p.1 ≠ dx)
    (e : (putL name (PyData.keyHash w.params name) (.str name s.toks) v es, putN name es n) = (es', n')) (hz : es'.length ≤ 1000)
    (h : ∀ h', Fr h₀ L h' m → News h₀ L h' (pre ++ (dx, dictOf es' n') :: post) → Q (.done (.ret .none)) { s with heap := h', toks := s.toks + 1 }) :
    wpAny (model prog w) A (storeInDict dx (.str name tk) name v) Q E s := by
  have e' : Obj.putName name (PyData.keyHash w.params name) (.str name s.toks) v (dictOf es n) = dictOf es' n' := by
    rw [putName_dict]
    have := e
    injection this with a b
    rw [a, b]
  obtain ⟨U1, U2⟩ := news_upd (f := Obj.putName name (PyData.keyHash w.params name) (.str name s.toks) v) F N h1 h2 e' rfl
  have D := (N (dx, dictOf es n) (by simp)).1
  have D' := (U2 (dx, dictOf es' n') (by simp)).1
  unfold storeInDict newKeyGuard
  refine wpAny_bind (wpAny_pure (wpAny_bind ?_))
  unfold nsSet
  refine wpAny_bind (wpAny_bind (wpAny_askSetting (wpAny_pure (wpAny_bind (wpAny_mkText (wpAny_bind (wpAny_loadPart D ?_)))))))
  dsimp only
  have c : (!es.toArray.any (·.key.isStr name) && es.toArray.any (·.refKey)) = false := by
    rw [← Array.any_toList, ← Array.any_toList]
    unfold getL at hl
    split at hl
    · rename_i en he
      rw [List.any_eq_true.mpr ⟨en, List.mem_of_find?_eq_some he, List.find?_some he⟩]; rfl
    · split at hl
      · cases hl
      · rename_i z; rw [Bool.not_eq_true] at z; rw [z, Bool.and_false]
  rw [aRefKeyMayBeTheName_at, c]
  refine wpAny_updatePart D ?_
  refine wpAny_bind (wpAny_lookBehind D' (pastItsLine_dict (by rw [List.size_toArray, sizeLine_eq]; omega)) ?_)
  exact wpAny_pure (h _ U1 U2)

/-- the first attribute of an exception: its dict is made -/
theorem exc_set1 {E : Value → Shared → Prop} {t : Addr} {name : Str} {v : Value} {Q : Unit → Shared → Prop} {cd : ClassData} {news : Led} (F : Fr h₀ L s.heap m) (N : News h₀ L s.heap ((x, excObj C t none) :: news)) (X₀ : K.In h₀) (hne : ∀ p ∈ news, p.1 ≠ x)
    (hs : findIn K (.ref C) "__setattr__" = some (some (.builtin "object.__setattr__"))) (hc : clsIn K C = some cd) (hpass : refuseLoop (.ref x) "__setattr__" cd.mro = pure ()) (hso : subIn K (.ref C) (.type "object") = some true)
    (ht : takerIn K C name = some none) (hd : cd.hasDict = true)
    (h : ∀ dx h' tk c k, Fr h₀ L h' m → News h₀ L h' ((x, excObj C t (some dx)) :: (dx, dictOf [⟨c, .str name k, v⟩] 1) :: news) → (∀ p ∈ (x, excObj C t none) :: news, p.1 < dx) → Q () { s with heap := h', toks := tk }) :
    wpAny (model prog w) A (setAttr (.ref x) name v) Q E s := by
  have X := X₀.keeps F.keep
  have hx : s.heap.get? x = some (excObj C t none) := (N _ (.head _)).1
  have I : InstAt s.heap x (excObj C t none) C none := ⟨hx, rfl, rfl, trivial⟩
  refine set_plain X I hs ?_
  refine osa_openX (s := { s with toks := s.toks + 1 }) X I hc hpass hso ht fun b => ?_
  unfold storeInOwnDict ownStreamTells ownDictForStores instanceDict
  have hcl : Looks (model prog w) s.heap (classData C) cd := looks_clsIn X hc
  repeat (first | simp only [hd, Bool.not_true, Bool.false_eq_true, if_false] | lk)
  have F2 := F.push emptyDict
  have N2 := N.push F emptyDict
  have hxs : s.heap.objs.size ≠ x := Nat.ne_of_gt (Heap.lt_size hx)
  have eo : (fun o : Obj => ({ cls := o.cls, dict := some s.heap.objs.size, data := o.data, slots := o.slots } : Obj)) (excObj C t none) = excObj C t (some s.heap.objs.size) := rfl
  obtain ⟨F3, N3⟩ := news_upd (f := fun o : Obj => ({ cls := o.cls, dict := some s.heap.objs.size, data := o.data, slots := o.slots } : Obj)) (o' := excObj C t (some s.heap.objs.size)) (pre := [(s.heap.objs.size, emptyDict)]) F2 N2 (fun p hp => by rw [List.mem_singleton.mp hp]; exact hxs) hne eo rfl
  have hx2 : (s.heap.push emptyDict).get? x = some (excObj C t none) := Heap.get?_push_of_some _ hx
  refine wpAny_update' hx2 ?_
  unfold dictMade
  refine wpAny_pure ?_
  dsimp only
  have N4 : News h₀ L _ ([(x, excObj C t (some s.heap.objs.size))] ++ (s.heap.objs.size, dictOf [] 0) :: news) := fun p hp => N3 p (by
    simp only [List.cons_append, List.nil_append, List.mem_cons] at hp ⊢
    rcases hp with h | h | h
    · exact .inr (.inl h)
    · exact .inl h
    · exact .inr (.inr h))
  refine store_dict (s := ⟨_, _, _, _, _⟩) F3 N4 rfl (fun p hp => by rw [List.mem_singleton.mp hp]; exact Ne.symm hxs) (fun p hp => Nat.ne_of_lt (Heap.lt_size (N p (.tail _ hp)).1)) rfl (by simp [putL]) fun h' F5 N5 => ?_
  exact h _ h' _ _ _ F5 N5 (fun p hp => Heap.lt_size (N p hp).1)

/-- a further attribute -/
theorem exc_set2 {E : Value → Shared → Prop} {t dx : Addr} {name : Str} {v : Value} {es : List DictEntry} {n : Nat} {Q : Unit → Shared → Prop} {cd : ClassData} {news : Led} (F : Fr h₀ L s.heap m) (N : News h₀ L s.heap ((x, excObj C t (some dx)) :: (dx, dictOf es n) :: news)) (X₀ : K.In h₀) (hne : ∀ p ∈ news, p.1 ≠ dx) (hxd : x ≠ dx)
    (hs : findIn K (.ref C) "__setattr__" = some (some (.builtin "object.__setattr__"))) (hc : clsIn K C = some cd) (hpass : refuseLoop (.ref x) "__setattr__" cd.mro = pure ()) (hso : subIn K (.ref C) (.type "object") = some true)
    (ht : takerIn K C name = some none) (hd : cd.hasDict = true) (hl : (getL name es).isSome = true) (hz : es.length ≤ 100)
    (h : ∀ h' tk od, Fr h₀ L h' m → News h₀ L h' ((x, excObj C t (some dx)) :: (dx, od) :: news) → Q () { s with heap := h', toks := tk }) :
    wpAny (model prog w) A (setAttr (.ref x) name v) Q E s := by
  have X := X₀.keeps F.keep
  have hx : s.heap.get? x = some (excObj C t (some dx)) := (N _ (.head _)).1
  have hdx : s.heap.get? dx = some (dictOf es n) := (N _ (.tail _ (.head _))).1
  have I : InstAt s.heap x (excObj C t (some dx)) C (some (dictOf es n)) := ⟨hx, rfl, rfl, hdx⟩
  refine set_plain X I hs ?_
  refine osa_openX (s := { s with toks := s.toks + 1 }) X I hc hpass hso ht fun b => ?_
  unfold storeInOwnDict ownStreamTells ownDictForStores instanceDict
  have hcl : Looks (model prog w) s.heap (classData C) cd := looks_clsIn X hc
  repeat (first | simp only [hd, Bool.not_true, Bool.false_eq_true, if_false] | lk)
  have c : (!es.toArray.any (·.key.isStr name) && es.toArray.any (·.refKey)) = false := by
    rw [← Array.any_toList, ← Array.any_toList]
    unfold getL at hl
    split at hl
    · rename_i en he
      rw [List.any_eq_true.mpr ⟨en, List.mem_of_find?_eq_some he, List.find?_some he⟩]; rfl
    · split at hl
      · cases hl
      · rename_i z; rw [Bool.not_eq_true] at z; rw [z, Bool.and_false]
  rw [aRefKeyMayBeTheName_at, c]
  generalize (if name.cps.isEmpty = true then (0 : Int) else reduceHash ((model prog w).w.params.strHash name.cps)) = H
  obtain ⟨U1, U2⟩ := news_upd (pre := [(x, excObj C t (some dx))]) (f := Obj.putName name H (.str name (s.toks + 1)) v) F N (fun p hp => by rw [List.mem_singleton.mp hp]; exact hxd) hne (putName_dict name H (.str name (s.toks + 1)) v es n) rfl
  have D' := (U2 (dx, dictOf (putL name H (.str name (s.toks + 1)) v es) (putN name es n)) (by simp)).1
  refine wpAny_updatePart hdx ?_
  refine wpAny_bind (wpAny_lookBehind D' (pastItsLine_dict (by
    rw [List.size_toArray, sizeLine_eq]
    have : ∀ l : List DictEntry, (putL name H (.str name (s.toks + 1)) v l).length ≤ l.length + 1 := by
      intro l
      induction l with
      | nil => simp [putL]
      | cons e r ih => unfold putL; split <;> simp <;> omega
    have := this es
    omega)) ?_)
  exact wpAny_pure (h _ _ _ U1 U2)
end

local macro_rules | `(tactic| walk_at "getMethod type:Exception") => `(tactic| (k_here; refine' method_type ?F ?X ?m (by decide +kernel) ?e ?h ?_; (case F => k_asm); (case X => k_asm); (case m => exact meta_Exc); (case e => k_dflt k_is); (case h => k_handed)))
local macro_rules | `(tactic| k_all) => `(tactic| assumption)
local macro_rules | `(tactic| k_mem) => `(tactic| assumption)
local macro_rules | `(tactic| walk_at "eval Name") => `(tactic| (k_here; k_dflt (refine' ld ?k1 ?k2 ?_; (case k1 => k_asm); (case k2 => first | exact rfl | assumption); k_whole)))
local macro_rules | `(tactic| walk_at "call builtin:Exception.__init__") => `(tactic| (k_here; k_dflt (refine' exc_init ?F ?N ?X ?ne ?ho ?hB ?_; (case F => k_asm); (case N => k_asm); (case X => k_asm); (case ne => assumption); (case ho => k_is); (case hB => decide +kernel)); intro t' h' F' N' l1; (try k_sweep)))
set_option maxHeartbeats 4000000 in
theorem fault_ok (prog : Program) (w : World) (msg : Str) (tm : Tok) (news : Led) :
    Calls prog w 53 5 [.str msg tm] news (fun r news' => ∃ e t d rest, r = .ref e ∧ news' = (e, excObj 53 t d) :: rest ∧ (∀ p ∈ news, p ∈ rest) ∧ (∀ p ∈ news, p.1 < e) ∧ (t, tup [.str msg tm] 0) ∈ rest ∧ t ≠ e ∧ ∀ p ∈ news, p.1 < t) := by
  intro pr loose mean mg mb dp un gd cn cs af ccd cl outer A₀ base h₀ L m s Q E B F X N T hk hd hu hret
  k_dflt (refine' exc_make F N X ?ho ?hB ?hA ?hN ?hi ?hf ?hr ?_; (case ho => k_is); (case hB => decide +kernel); (case hA => decide +kernel); (case hN => decide +kernel); (case hi => k_is); (case hf => k_is); (case hr => size_fits))
  intro e t h' F' N' l1 l2
  k_dflt (refine' code_def ?k1 ?k2 ?k3 ?k4 ?k5 ?kA ?kF ?kK ?k6 ?k7 ?k8 ?k9 ?kB ?_ ?c2 ?c3 ?c4 ?c5; (case kA => exact rfl); (case kF => exact rfl); (case kK => assumption); (case k1 => k_asm); (case k2 => k_asm); (case k3 => k_asm); (case k4 => k_asm); (case k5 => k_asm); (case k6 => k_is); (case k7 => k_is); (case k8 => ktr_room); (case k9 => exact binds_K (by k_in) rfl (by k_is) rfl rfl rfl); (case c5 => decide); (case kB => exact locs rfl); (case c2 => exact rfl); (case c3 => exact rfl); (case c4 => exact rfl); k_whole; intro g' L' h' FG' F' N' B' X' T'; (try dsimp only); (try k_fold))
  have hne : ∀ p ∈ (t, tup [.str msg tm] 0) :: news, p.1 ≠ e := fun p hp => by
    rcases List.mem_cons.mp hp with rfl | hp
    · exact Nat.ne_of_lt l2
    · exact Nat.ne_of_lt (Nat.lt_trans (l1 p hp) l2)
  k_steps
  rename (∀ p ∈ (e, excObj 53 t none) :: _, p.1 < _) => l3
  rename Fr _ _ _ _ => F3
  rename News _ _ _ _ => N3
  k_dflt (refine' exc_set1 F3 N3 ?X ?ne ?hs ?hc ?hp ?ho ?ht ?hd ?_; (case X => k_asm); (case hs => k_is); (case hc => k_is); (case hp => exact exc_pass _); (case ho => k_is); (case ht => k_is); (case hd => rfl))
  case ne =>
    intro p hp
    rcases List.mem_cons.mp hp with rfl | hp
    · exact Nat.ne_of_gt (l3 _ (.head _))
    · exact hne p hp
  intro dx h4 tk4 c4 k4 F4 N4 l4
  clear F3 N3
  k_steps
  k_dflt (refine' exc_set2 F4 N4 ?X ?ne ?hx ?hs ?hc ?hp ?ho ?ht ?hd ?hl ?hz ?_; (case X => k_asm); (case hs => k_is); (case hc => k_is); (case hp => exact exc_pass _); (case ho => k_is); (case ht => k_is); (case hd => rfl); (case hl => rfl); (case hz => simp))
  case ne => exact fun p hp => Nat.ne_of_lt (l4 p (.tail _ hp))
  case hx => exact Nat.ne_of_lt (l4 _ (.head _))
  intro h5 tk5 od5 F5 N5
  clear F4 N4
  k_steps
  exact hret _ _ _ _ (by k_asm) (by k_asm) ⟨e, _, _, _, rfl, rfl, fun p hp => .tail _ (.tail _ (.tail _ hp)), fun p hp => Nat.lt_trans (l1 p hp) l2, .tail _ (.head _), Nat.ne_of_gt (l3 _ (.head _)), fun p hp => l3 p (.tail _ (.tail _ hp))⟩
end Mine
end
section
namespace Mine

section
variable {prog : Program} {w : World} {A : Around} {E : Value → Shared → Prop} {env : Env} {s : Shared}
variable {nm q : Str} {C N : Addr} {bs bm : List Value} {hdct : Bool} {sn : List Str} {sub : List Value} {ab : Bool} {col : Option Bool} {dd : Option Addr} {k0 k1 k2 k3 k5 : Option Value} {newId : String}
theorem raise_made {ex : Expr} {pos : Pos} {Q : Flow → Shared → Prop} (hbase : bm.contains (.type "BaseException") = true) (hh : A.handled = none)
    (h : wpAny (model prog w) A (eval ex env) (fun v s₁ => ∃ e t d, v = .ref e ∧ s₁.heap.get? C = some (excClassObj nm q C N bs bm hdct sn sub ab col dd k0 k1 k2 k3 k5 newId) ∧
      s₁.heap.get? e = some (excObj C t d) ∧ E (.ref e) s₁) E s) :
    wpAny (model prog w) A (exec (.Raise (some ex) none pos) env) Q E s := by
  have hcB : (Value.ref C :: bm).contains (.type "BaseException") = true := by rw [List.contains_cons, hbase, Bool.or_true]
  rw [arm_exec_Raise]
  refine wpAny_bind (wpAny_standAt ?_)
  simp only [evalOpt, Option.map]
  unfold raiseStmt
  refine wpAny_bind (wpAny_bind (wpAny_mono h (fun v s₁ h₁ => wpAny_bind (wpAny_standAt (wpAny_pure ?_))) fun _ _ x => x))
  obtain ⟨e, t, d, rfl, hC, he, hE⟩ := h₁
  obtain ⟨hp, g, dr, tk, os⟩ := s₁
  repeat (first | with_reducible refine wpAny_loadPart_at he ?_ | with_reducible refine wpAny_loadPart_at hC ?_ | (with_reducible refine wpAny_isSubtype_exc hC ?_; rw [hcB]) | wp_step)
  exact wpAny_raiseNew_none hh hE
end

section
variable {M : Model} {A : Around} {E : Value → Shared → Prop} {s' : Shared} {base g : Heap} {outer : List Env} {L a e t C : Addr} {d : Option Addr} {m : Str → Option Value} {name : Str} {scope : Scope} {cd : Value} {Q : Unit → Shared → Prop} {news led : List (Addr × Obj)} {vs : List Value}
theorem leave_any (K : Below A base outer g) (F : Fr g L s'.heap m) (N : News g L s'.heap led) (he : (e, excObj C t d) ∈ led) (ht : (t, tup vs 0) ∈ led) (hsub : ∀ p ∈ news, p ∈ led) (ne : ∀ p ∈ news, p.1 ≠ e) (nt : ∀ p ∈ news, p.1 ≠ t)
    (hQ : ∀ h', RaisedS base g outer e (.ref C) t vs news h' → g.UpToSlots h' → Q () { s' with heap := h' }) (hk : scope.kind = .function) :
    wpAny M (A.deeper (envOf name scope L a cd)) (leaving (envOf name scope L a cd) (.ref e)) Q E s' := by
  have K' := K.push (name := name) (a := a) (cd := cd) F hk
  have ge := (N _ he).2.2
  have gt := (N _ ht).2.2
  have be : base.get? e = none := fresh_of_stays K.stays ge
  have bt : base.get? t = none := fresh_of_stays K.stays gt
  have hm : ∀ b, b ∈ e :: t :: (envOf name scope L a cd :: outer).filterMap (·.frame) → b = e ∨ b = t ∨ b ∈ (envOf name scope L a cd :: outer).filterMap (·.frame) := fun b hb => by
    rcases List.mem_cons.mp hb with h | hb
    · exact .inl h
    · rcases List.mem_cons.mp hb with h | hb
      · exact .inr (.inl h)
      · exact .inr (.inr hb)
  have hin : ∀ env ∈ (envOf name scope L a cd :: outer), ∀ b, env.frame = some b → b ∈ e :: t :: (envOf name scope L a cd :: outer).filterMap (·.frame) := fun env he b hb => .tail _ (.tail _ (List.mem_filterMap.mpr ⟨env, he, hb⟩))
  have st : base.StaysIn (hideAll s'.heap (e :: t :: (envOf name scope L a cd :: outer).filterMap (·.frame))) := fun b o q => hideAll_get _ (K'.stays b o q) fun hb => by
    rcases hm b hb with rfl | rfl | hb
    · rw [be] at q; cases q
    · rw [bt] at q; cases q
    · rw [(K'.frames.mem hb).1] at q; cases q
  have sg : ∀ b o, g.get? b = some o → b ∉ outer.filterMap (·.frame) → (hideAll s'.heap (e :: t :: (envOf name scope L a cd :: outer).filterMap (·.frame))).get? b = some o := fun b o q nm => hideAll_get _ (F.keep b o q) fun hb => by
    rcases hm b hb with rfl | rfl | hb
    · rw [ge] at q; cases q
    · rw [gt] at q; cases q
    · rcases kts_mem hb with z | z
      · rw [z, kts_self F] at q
        cases q
      · exact nm z
  have hl : ∀ q ∈ news, (hideAll s'.heap (e :: t :: (envOf name scope L a cd :: outer).filterMap (·.frame))).get? q.1 = some q.2 ∧ g.get? q.1 = none ∧ base.get? q.1 = none := fun q hq => by
    have Nq := N q (hsub q hq)
    refine ⟨hideAll_get _ Nq.1 fun hb => ?_, Nq.2.2, fresh_of_stays K.stays Nq.2.2⟩
    rcases hm q.1 hb with z | z | hb
    · exact ne q hq z
    · exact nt q hq z
    · obtain ⟨env, he, hf⟩ := List.mem_filterMap.mp hb
      rcases List.mem_cons.mp he with rfl | he
      · exact Nq.2.1 (Option.some.inj hf).symm
      · obtain ⟨o, ho, _⟩ := (K.frames.mem (List.mem_filterMap.mpr ⟨env, he, hf⟩)).2
        rw [Nq.2.2] at ho; cases ho
  refine wpAny_leaving_firstW (base := hideAll s'.heap (e :: t :: (envOf name scope L a cd :: outer).filterMap (·.frame))) (a0 := .ref t) (L := L) K'.stack (funFrames_hide K'.frames hin) rfl (N _ he).1 (fun b o q => of_hideAll _ q) (hideAll_none _ (.head _)) rfl rfl rfl fun h' hL => ?_
  obtain ⟨k1, ⟨_, _, k2⟩, k3, k4⟩ := hL
  exact hQ h' ⟨⟨_, st, sg, hl, ⟨k1, hideAll_none _ (.head _), k2, k3⟩, hideAll_none _ (.tail _ (.head _))⟩, Heap.TupAt.of_slots ⟨_, _, (N _ ht).1, rfl, rfl⟩ k4⟩ ((Heap.UpToSlots.of_keeps F.keep).trans k4)
end
end Mine
end
section
namespace Mine

def CallsE (prog : Program) (w : World) (f : Addr) (k : Nat) (vs : List Value) (news : Led) (Post : Value → Led → Prop) (C : Addr) (Err : Prop) : Prop :=
  ∀ (p : Program) (loose : List Str) (mean : ExcName → Option Value) (mg mb : Str → Option Value) (dp un : Nat) (gd : Option (List Code)) (cn : Str) (cs : Scope) (a : Addr) (ccd : Value) (cl : List (Str × Addr)) (outer : List Env) (A₀ : Around) (base h₀ : Heap) (L : Addr) (m : Str → Option Value) (s : Shared) (Q E : Value → Shared → Prop),
    Below A₀ base outer h₀ → Fr h₀ L s.heap m → (Mine.hd.heap_39 w.params).In h₀ → News h₀ L s.heap news → Top p loose mean mg mb h₀ → cs.kind = .function →
    dp + k < recursionLimit → un + 8 * k < cLine →
    (∀ r h' tk' news', Fr h₀ L h' m → News h₀ L h' news' → Post r news' → Q r { s with heap := h', toks := tk' }) →
    (∀ e t vs' G h' tk', RaisedS base G (envX cn cs L a ccd cl :: outer) e (.ref C) t vs' news h' → Fr h₀ L G m → G.UpToSlots h' → Err → E (.ref e) { s with heap := h', toks := tk' }) →
    wpAny (model prog w) (ktrTop dp un gd cn cs L a ccd cl outer) (call (.ref f) vs) Q E s


section
variable {prog : Program} {w : World} {A : Around} {E : Value → Shared → Prop} {s : Shared} {h₀ : Heap} {L : Addr} {news : Led}
theorem truthy_found {l : Addr} {fs : List Value} {n : Nat} {b : Bool} {Q : Bool → Shared → Prop} (N : News h₀ L s.heap news) (hm : (l, listOf fs.toArray n) ∈ news) (hz : fs.length ≤ 1000) (hb : decide (0 < fs.length) = b)
    (h : ∀ tk, Q b { s with toks := tk }) : wpAny (model prog w) A (truthy (.ref l)) Q E s := by
  subst hb
  refine wpAny_truthy_list (News.isList N hm) (by simp; omega) ?_
  rw [show (!fs.toArray.isEmpty) = decide (0 < fs.length) from by cases fs <;> simp]
  exact h _
theorem len_found {l : Addr} {fs : List Value} {n : Nat} {Q : Value → Shared → Prop} (N : News h₀ L s.heap news) (hm : (l, listOf fs.toArray n) ∈ news) (hz : fs.length ≤ 1000)
    (h : Q (.int (fs.length : Nat) (s.toks + 1)) { s with toks := s.toks + 1 + 1 }) : wpAny (model prog w) A (call (.builtin "len") [.ref l]) Q E s := by
  have e : fs.toArray.size = fs.length := by simp
  refine Calls.call_len_list (News.isList N hm) (by omega) ?_
  rw [e]
  exact h
end


section
variable {prog : Program} {w : World} {A : Around} {E : Value → Shared → Prop} {env : Env} {s : Shared} {K : Frag} {h₀ : Heap} {L : Addr}
variable {nm q : Str} {C N : Addr} {bs bm : List Value} {hdct : Bool} {sn : List Str} {sub : List Value} {ab : Bool} {col : Option Bool} {dd : Option Addr} {k0 k1 k2 k3 k5 : Option Value} {newId : String}
theorem raise_K {ex : Expr} {pos : Pos} {Q : Flow → Shared → Prop} (X₀ : K.In h₀) (ho : K.lookup C = some (excClassObj nm q C N bs bm hdct sn sub ab col dd k0 k1 k2 k3 k5 newId)) (hbase : bm.contains (.type "BaseException") = true) (hh : A.handled = none)
    (h : wpAny (model prog w) A (eval ex env) (fun v s₁ => ∃ e t d m', v = .ref e ∧ Fr h₀ L s₁.heap m' ∧ s₁.heap.get? e = some (excObj C t d) ∧ E (.ref e) s₁) E s) :
    wpAny (model prog w) A (exec (.Raise (some ex) none pos) env) Q E s :=
  raise_made hbase hh (wpAny_mono h (fun _ _ ⟨e, t, d, _, hv, F, he, hE⟩ => ⟨e, t, d, hv, (X₀.keeps F.keep) _ _ ho, he, hE⟩) fun _ _ x => x)
end

local macro_rules | `(tactic| k_all) => `(tactic| assumption)
local macro_rules | `(tactic| k_mem) => `(tactic| assumption)
local macro_rules | `(tactic| walk_at "eval Name") => `(tactic| (k_here; k_dflt (refine' ld ?k1 ?k2 ?_; (case k1 => k_asm); (case k2 => first | exact rfl | assumption); k_whole)))
local macro_rules | `(tactic| walk_at "call type:range") => `(tactic| ((rename Fr _ _ _ _ => F'); (rename News _ _ _ _ => N'); first
  | (refine range1_rows F' N' ?_; intro _ _ _ _ _ _ _ _ _)
  | (refine range2_rows F' N' ?_; intro _ _ _ _ _ _ _ _ _)))
local macro_rules | `(tactic| walk_at "call builtin:len") => `(tactic| (k_here; (with_reducible show wpAny _ _ (call (Value.builtin "len") [Value.ref _]) _ _ _); refine len_pars' (by k_asm) (by k_mem) (by assumption) (by assumption) ?_))
local macro_rules | `(tactic| walk_at "subscriptTail Name Name ref int") => `(tactic| (k_here; (refine sub_pars' (by k_asm) (by k_mem) (by assumption) (by assumption) (by omega) (by omega) ?_); intro x' dx' c1' c2' c3' k1' k2' k3' ta' tb' n' body' hx' m1' m2'))
local macro_rules | `(tactic| walk_at "newTuple") => `(tactic| (k_here; k_dflt (refine' kup_newTuple ?F ?N ?_ ?z; (case F => k_asm); (case N => k_asm); (case z => size_fits)); intro D' h' F' N' l1; (try k_sweep)))
local macro_rules | `(tactic| walk_at "call builtin:list.append") => `(tactic| (k_here; (with_reducible show wpAny _ _ (call (Value.builtin _) [Value.ref _, _]) _ _ _); (refine' append_S ?k1 ?k2 ?k3 ?_ ?z; (case k1 => k_asm); (case k2 => k_asm); (case k3 => k_mem); (case z => (simp only [List.size_toArray]; rw [sizeLine_eq]; omega))); intro h' F' hN'))
local macro_rules | `(tactic| walk_at "truthy ref") => `(tactic| (k_here; (with_reducible show wpAny _ _ (truthy (Value.ref _)) _ _ _); (refine' truthy_found ?N ?m ?z ?b ?_; (case N => k_asm); (case m => k_mem); (case z => assumption); (case b => first | exact decide_eq_true (by omega) | exact decide_eq_false (by omega) | exact rfl)); intro _))
local macro_rules | `(tactic| walk_at "my_steps2") => `(tactic| repeat' (
  fail_if_success (with_reducible show wpAny _ _ (exec (PySem.Stmt.Raise _ _ _) _) _ _ _);
  fail_if_success (with_reducible show wpAny _ _ (call (Value.builtin "len") _) _ _ _);
  fail_if_success (with_reducible show wpAny _ _ (call (Value.ref 53) _) _ _ _);
  first | (k_unfold; (try dsimp only)) | (k_end; wrow_close) | walk1 | (dsimp only; walk1) | (leave1; walk_say "STEP leave1"; try dsimp only) | fail "no step"))
local macro_rules | `(tactic| walk_at "my_steps") => `(tactic| repeat' (
  fail_if_success (with_reducible show wpAny _ _ (exec (PySem.Stmt.While _ _ _ _) _) _ _ _);
  fail_if_success (with_reducible show wpAny _ _ (exec (PySem.Stmt.For _ _ _ _ _) _) _ _ _);
  fail_if_success (with_reducible show wpAny _ _ (exec (PySem.Stmt.Raise _ _ _) _) _ _ _);
  fail_if_success (with_reducible show wpAny _ _ (pyIter _) _ _ _);
  fail_if_success (with_reducible show wpAny _ _ (call (Value.ref 109) _) _ _ _);
  first | (k_unfold; (try dsimp only)) | (k_end; wrow_close) | walk1 | (dsimp only; walk1) | (leave1; walk_say "STEP leave1"; try dsimp only) | fail "no step"))
local macro_rules | `(tactic| walk_at "my_stepsI") => `(tactic| repeat' (
  fail_if_success (with_reducible show wpAny _ _ (exec (PySem.Stmt.If _ _ _ _) _) _ _ _);
  first | (k_unfold; (try dsimp only)) | (k_end; wrow_close) | walk1 | (dsimp only; walk1) | (leave1; walk_say "STEP leave1"; try dsimp only) | fail "no step"))

set_option maxHeartbeats 4000000 in
theorem range_of_ok (prog : Program) (w : World) (p pair lr : Addr) (using_ : Value) (vs : List Value) (nl np : Nat) (R : List (Str × Str)) (name section_ : Str) (tn ts : Tok) (news : Led)
    (hP : ProcAt news p lr using_) (hl : (lr, listOf vs.toArray nl) ∈ news) (hp : Pars news vs R) (hR : R.length ≤ 1000) (hpair : (pair, tup [.str name tn, .str section_ ts] np) ∈ news) (hname : name.length ≤ 100) :
    CallsE prog w 116 20 [.ref p, .ref pair] news (fun r news' => (∀ p ∈ news, p ∈ news') ∧ ∃ q a b ta tb n, r = .ref q ∧ (q, tup [.int a ta, .int b tb] n) ∈ news' ∧ FoundOf (secEndSpec R) R name section_ R.length [(a, b)]) 53 (∃ ds, FoundOf (secEndSpec R) R name section_ R.length ds ∧ ds.length ≠ 1) := by
  intro pr loose mean mg mb dp un gd cn cs af ccd cl outer A₀ base h₀ L m s Q E B F X N T hk hd hu hret herr
  refine wpAny_call ?_
  k_dflt ktr_enter
  rename_i g1 L1 hh1 FG1 Fa Na B1 X1 T1
  obtain ⟨dp', c1, c2, k1, k2, n', hp1, hp2⟩ := id hP
  walk_at "my_steps"
  rename Fr _ _ _ _ => F1
  refine' For_invVF F1 (by rfl) (by rfl) ?_
  walk_at "my_steps"
  rename Fr _ _ _ _ => F2
  rename News _ _ _ _ => N2
  rename IsRange _ _ _ _ _ _ _ _ => hrg
  refine loop_range R.length (fun i m₁ nx => ∃ fo fs nf extra ds, m₁ (Str.ofString "found") = some (.ref fo) ∧ m₁ (Str.ofString "self") = some (.ref p) ∧ m₁ (Str.ofString "name") = some (.str name tn) ∧ m₁ (Str.ofString "section") = some (.str section_ ts) ∧
    nx = (fo, listOf fs.toArray nf) :: extra ∧ (∀ p ∈ news, p ∈ extra) ∧ (∀ p ∈ extra, p.1 ≠ fo) ∧ FoundL extra fs ds ∧ FoundOf (secEndSpec R) R name section_ i ds) rfl hrg (small_one (by omega) (by omega) (by omega) (by omega)) (by rw [rangeSize_nat]; omega) F2 N2
    ⟨_, [], 0, news, [], rfl, rfl, rfl, rfl, rfl, fun _ h => h, fun p hp => Nat.ne_of_lt (‹∀ p ∈ news, p.1 < _› p hp), .nil, .zero⟩ ?_ ?_
  · rintro i t m₁ nx h tk I o hi hI ⟨fo, fs, nf, extra, ds, hm1, hm2, hm3, hm4, rfl, hsub, hne, hfl, hfo⟩ F₁ N₁
    clear F2 N2 hrg
    have hl' := hsub _ hl
    have hp' := hp.mono hsub
    have hp1' := hsub _ hp1
    have hp2' := hsub _ hp2
    have hIf : fo ≠ I := hI _ (.head _)
    have hI' : ∀ p ∈ extra, p.1 ≠ I := fun p hp => hI p (.tail _ hp)
    have hfs : fs.length ≤ 1000 := by have := hfl.length; have := hfo.le; omega
    dsimp only [envOf] at F₁ N₁
    rw [Int.zero_add] at F₁
    walk_at "my_stepsI"
    refine wpAny_mono (Q := fun f s' => Cut (f = .next ∧ LFPost g1 L1 s extra I o fo (fun m₂ =>
       (m₂ (Str.ofString "found") = some (.ref fo) ∧ m₂ (Str.ofString "self") = some (.ref p) ∧ m₂ (Str.ofString "name") = some (.str name tn) ∧ m₂ (Str.ofString "section") = some (.str section_ ts) ∧ m₂ (Str.ofString "at") = some (.int i t)) ∧
       ∃ x dx c1 c2 c3 k1 k2 k3 ta tb n body, m₂ (Str.ofString "row") = some (.ref x) ∧ (x, instObj 79 dx) ∈ extra ∧ (dx, dictOf [⟨c1, .str "name" k1, .str (nm R i) ta⟩, ⟨c2, .str "section" k2, .str (sec R i) tb⟩, ⟨c3, .str "statements" k3, body⟩] n) ∈ extra)
       (fun dd => ∃ ds', dd = ds ++ ds' ∧ ((Cond1 R name section_ i ∧ ds' = [((i : Int), (i : Int))]) ∨ (¬ Cond1 R name section_ i ∧ ds' = []))) s')) ?_ ?_ (fun _ _ x => x)
    · walk_at "my_steps"
      all_goals refine Cut.intro ⟨rfl, ?_⟩
      all_goals first
        | (refine' LFPost.app2 ?F ?N ?l ?hb hIf ?K (fun p hp => hp) hne hI' hfl ⟨_, rfl, ?_⟩; (case F => k_asm); (case N => assumption); (case l => assumption); (case hb => exact fun p hp => .tail _ hp); (case K => exact ⟨⟨hm1, hm2, hm3, hm4, rfl⟩, _, _, _, _, _, _, _, _, _, _, _, _, rfl, by assumption, by assumption⟩))
        | (refine' LFPost.same ?F ?N ?K (fun p hp => hp) hne hI' hfl ⟨[], (List.append_nil _).symm, ?_⟩; (case F => k_asm); (case N => first | k_asm | exact News.tl (by k_asm)); (case K => exact ⟨⟨hm1, hm2, hm3, hm4, rfl⟩, _, _, _, _, _, _, _, _, _, _, _, _, rfl, by assumption, by assumption⟩))
      all_goals first
        | exact .inl ⟨cond1_i (by assumption) (by assumption) (by assumption), rfl⟩
        | exact .inr ⟨cond1_f1 (by assumption), rfl⟩
        | exact .inr ⟨cond1_f2 (by assumption), rfl⟩
        | exact .inr ⟨cond1_if (by assumption), rfl⟩
    · rintro f s' ⟨rfl, hh, tk2, fs2, nf2, extra2, dd, m₂, rfl, F₃, N₃, ⟨⟨hn1, hn2, hn3, hn4, hn5⟩, x, dx, d1, d2, d3, e1, e2, e3, ta, tb, nd, body, hn6, hx1, hx2⟩, hsub2, hne2, hI2, hfl2, ds', rfl, hC⟩
      have hx1' := hsub2 _ hx1
      have hx2' := hsub2 _ hx2
      have hsub3 : ∀ q ∈ news, q ∈ extra2 := fun q hq => hsub2 q (hsub q hq)
      clear hp' hl' hfl hne hI hI' hx1 hx2 hp1' hp2' hsub2
      have hl' := hsub3 _ hl
      have hp' := hp.mono hsub3
      have hp1' := hsub3 _ hp1
      have hp2' := hsub3 _ hp2
      have hle : ds'.length ≤ 1 := by rcases hC with ⟨_, rfl⟩ | ⟨_, rfl⟩ <;> simp
      have hfs2 : fs2.length ≤ 1000 := by have := hfl2.length; have := hfo.le; rw [List.length_append] at *; omega
      dsimp only
      walk_at "my_steps"
      all_goals try (
        refine LFPost.turn (fo := fo) (C := FoundOf (secEndSpec R) R name section_ (i + 1)) (K := fun m₂ => m₂ (Str.ofString "found") = some (.ref fo) ∧ m₂ (Str.ofString "self") = some (.ref p) ∧ m₂ (Str.ofString "name") = some (.str name tn) ∧ m₂ (Str.ofString "section") = some (.str section_ ts)) ?_ hIf
          (fun m₂ fs nf extra dd hK h1 h2 h3 h4 => ⟨fo, fs, nf, extra, dd, hK.1, hK.2.1, hK.2.2.1, hK.2.2.2, rfl, h1, h2, h3, h4⟩)
        (refine' LFPost.same ?F ?N ?K hsub3 hne2 hI2 hfl2 ?_; (case F => k_asm); (case N => k_asm); (case K => exact ⟨hn1, hn2, hn3, hn4⟩))
        refine FoundOf.succ hfo ?_
        have hC2 : ¬ Cond2 R name section_ i := by first | exact cond2_f1 (by assumption) | exact cond2_cf1 (by assumption) | exact cond2_cf2 (by assumption) | exact cond2_f3 (by assumption)
        rcases hC with ⟨hC, rfl⟩ | ⟨hC, rfl⟩
        · exact .inl ⟨hC, rfl⟩
        · exact .inr (.inr ⟨hC, hC2, rfl⟩))
      refine' Calls.use (section_end_ok _ _ _ lr using_ vs nl R i t _ ?hP ?hl ?hp hR (by omega) (by omega)) ?B ?F ?X ?N ?T ?k ?d ?u ?_
      case N => k_asm
      case hP => exact hP.mono fun q hq => .tail _ (.tail _ (hsub3 q hq))
      case hl => exact .tail _ (.tail _ hl')
      case hp => exact hp.mono fun q hq => .tail _ (.tail _ (hsub3 q hq))
      case B => k_asm
      case F => k_asm
      case X => k_asm
      case T => k_asm
      case k => exact rfl
      case d => ktr_room
      case u => ktr_units
      rintro r h9 tk9 news9 F9 N9 ⟨rfl, e, te, rfl, hspec⟩
      walk_at "my_steps"
      refine LFPost.turn (fo := fo) (C := FoundOf (secEndSpec R) R name section_ (i + 1)) (K := fun m₂ => m₂ (Str.ofString "found") = some (.ref fo) ∧ m₂ (Str.ofString "self") = some (.ref p) ∧ m₂ (Str.ofString "name") = some (.str name tn) ∧ m₂ (Str.ofString "section") = some (.str section_ ts)) ?_ hIf
          (fun m₂ fs nf extra dd hK h1 h2 h3 h4 => ⟨fo, fs, nf, extra, dd, hK.1, hK.2.1, hK.2.2.1, hK.2.2.2, rfl, h1, h2, h3, h4⟩)
      (refine' LFPost.app ?F ?N ?l hIf ?K hsub3 hne2 hI2 hfl2 ?_; (case F => k_asm); (case N => assumption); (case l => assumption); (case K => exact ⟨hn1, hn2, hn3, hn4⟩))
      have hC2 : Cond2 R name section_ i := cond2_c (by assumption) (by assumption) (by assumption) (by assumption)
      rcases hC with ⟨hC, rfl⟩ | ⟨hC, rfl⟩
      · exact absurd hC2 (cond_not (P := secEndSpec R) hC)
      · rw [List.append_nil]
        exact FoundOf.succ hfo (.inr (.inl ⟨hC2, e, hspec, rfl⟩))
  · rintro m₁ nx h tk ⟨fo, fs, nf, extra, ds, hm1, hm2, hm3, hm4, rfl, hsub, hne, hfl, hfo⟩ F₁ N₁
    clear F2 N2 hrg
    dsimp only [envOf] at F₁ N₁
    have hfs : fs.length ≤ 1000 := by have := hfl.length; have := hfo.le; omega
    have hfl2 := hfl.length
    rcases ds with _ | ⟨d, _ | ⟨d2, ds⟩⟩
    · have hz : fs.length = 0 := hfl2
      have : fs = [] := List.eq_nil_of_length_eq_zero hz
      subst this
      walk_at "my_steps2"
      all_goals try (
        refine' raise_K (C := 53) (L := L1) (h₀ := g1) ?X ?ho ?hb rfl ?_
        case X => k_asm
        case ho => k_is
        case hb => decide +kernel
        walk_at "my_steps2"
        refine' Calls.use (fault_ok _ _ _ _ _) ?B ?F ?X ?N ?T ?k ?d ?u ?_
        case N => k_asm
        case B => k_asm
        case F => k_asm
        case X => k_asm
        case T => k_asm
        case k => exact rfl
        case d => ktr_room
        case u => ktr_units
        rintro r h9 tk9 news9 F9 N9 ⟨e, t, d, rest, rfl, rfl, hs1, hs2, hs3, hs4, hs5⟩
        refine ⟨e, t, d, _, rfl, F9, (N9 _ (.head _)).1, ?_⟩
        refine leave_any (news := news) B1 F9 N9 (.head _) (.tail _ hs3) (fun p hp => .tail _ (hs1 p (.tail _ (hsub p hp)))) (fun p hp => Nat.ne_of_lt (hs2 p (.tail _ (hsub p hp)))) (fun p hp => Nat.ne_of_lt (hs5 p (.tail _ (hsub p hp)))) ?_ rfl
        intro h' hR hU
        exact herr _ _ _ _ _ _ hR FG1 hU ⟨_, hfo, by simp⟩)
    · obtain ⟨q, ta, tb, nq, rfl, hq⟩ := hfl.one
      walk_at "my_steps2"
      refine len_found (by k_asm) (by k_mem) hfs ?_
      walk_at "my_steps2"
      · rename_i hbad
        exact absurd hbad (by simp)
      exact hret _ _ _ _ (by k_asm) (by k_asm) ⟨fun p hp => .tail _ (hsub p hp), q, d.1, d.2, ta, tb, nq, rfl, .tail _ hq, hfo⟩
    · have hz : 2 ≤ fs.length := by rw [hfl2]; simp
      walk_at "my_steps2"
      · rename_i hem
        rw [List.isEmpty_iff.mp hem] at hz
        exact absurd hz (by simp)
      refine len_found (by k_asm) (by k_mem) hfs ?_
      walk_at "my_steps2"
      all_goals try (
        refine' raise_K (C := 53) (L := L1) (h₀ := g1) ?X ?ho ?hb rfl ?_
        case X => k_asm
        case ho => k_is
        case hb => decide +kernel
        walk_at "my_steps2"
        refine' Calls.use (fault_ok _ _ _ _ _) ?B ?F ?X ?N ?T ?k ?d ?u ?_
        case N => k_asm
        case B => k_asm
        case F => k_asm
        case X => k_asm
        case T => k_asm
        case k => exact rfl
        case d => ktr_room
        case u => ktr_units
        rintro r h9 tk9 news9 F9 N9 ⟨e, t, d, rest, rfl, rfl, hs1, hs2, hs3, hs4, hs5⟩
        refine ⟨e, t, d, _, rfl, F9, (N9 _ (.head _)).1, ?_⟩
        refine leave_any (news := news) B1 F9 N9 (.head _) (.tail _ hs3) (fun p hp => .tail _ (hs1 p (.tail _ (hsub p hp)))) (fun p hp => Nat.ne_of_lt (hs2 p (.tail _ (hsub p hp)))) (fun p hp => Nat.ne_of_lt (hs5 p (.tail _ (hsub p hp)))) ?_ rfl
        intro h' hR hU
        exact herr _ _ _ _ _ _ hR FG1 hU ⟨_, hfo, by simp⟩)
end Mine
end
section
namespace Mine

section
variable {prog : Program} {w : World} {A₀ A : Around} {s : Shared} {base h₀ g₀ : Heap} {outer : List Env} {env : Env} {L a : Addr} {m : Str → Option Value} {news : List (Addr × Obj)} {K : Frag} {p : Program} {loose : List Str} {mean : ExcName → Option Value} {mg mb : Str → Option Value}
    {R : Result → Shared → Prop} {name qual : Str} {params : Arguments} {body : List Stmt} {scope : Scope} {dV kV doc pm cdv ct oc : Value} {an od : Option Addr} {osl : Array (Option Value)} {f : Addr} {args : Args} {binds : List (Str × Value)}

theorem enterX (B : Below A₀ base outer h₀) (F : Fr h₀ L s.heap m) (N : News h₀ L s.heap news) (hA : A.frames = some (env :: outer)) (hfr : env.frame = some L) (hck : env.scope.kind = .function) :
    ∃ oL es ep, (hideAll s.heap (news.map (·.1))).get? L = some oL ∧ oL.data = .dict es ep ∧ (∀ h', h'.get? L = some oL → Heap.Ns h' L m) ∧ (∀ (sl : Array (Option Value)) h', h'.get? L = some { oL with slots := sl } → Heap.Ns h' L m) ∧
      h₀.StaysIn (hideAll s.heap (news.map (·.1))) ∧ Below A base (env :: outer) (hideAll s.heap (news.map (·.1))) := by
  have nm : ∀ b o, h₀.get? b = some o → b ∉ news.map (·.1) := fun b o e q => by
    obtain ⟨p, hp, rfl⟩ := List.mem_map.mp q
    rw [(N p hp).2.2] at e; cases e
  have st : h₀.StaysIn (hideAll s.heap (news.map (·.1))) := fun b o e => hideAll_get _ (F.keep b o e) (nm b o e)
  obtain ⟨oL, es, ep, hL, hLd, hLk, hLf⟩ := id F.ns
  have nL : L ∉ news.map (·.1) := fun q => by
    obtain ⟨p, hp, e⟩ := List.mem_map.mp q
    exact (N p hp).2.1 e
  have hLg := hideAll_get (news.map (·.1)) hL nL
  have hnew : base.get? L = none := fresh_of_stays B.stays (kts_self F)
  have B₁ : s.heap.FunFrames base (env :: outer) := .cons (by rw [hck]; decide) hfr F.ns hnew (B.frames.of_keeps fun b o e _ => ⟨o, F.keep b o e, rfl⟩)
  exact ⟨oL, es, ep, hLg, hLd, fun h' e => ⟨oL, es, ep, e, hLd, hLk, hLf⟩, fun sl h' e => ⟨_, es, ep, e, hLd, hLk, hLf⟩, st, ⟨hA, fun b o e => st b o (B.stays b o e), funFrames_hideAll B₁ fun env' he b hb hf => by
    cases he with
    | head => exact nL ((Option.some.inj (hfr.symm.trans hf) : L = b) ▸ hb)
    | tail _ he =>
      obtain ⟨L₁, o₁, hf₁, ho₁⟩ := funFrames_in B.frames env' he
      rw [hf₁] at hf
      exact nm L₁ o₁ ho₁ ((Option.some.inj hf : L₁ = b) ▸ hb)⟩⟩

theorem code_defS0X (B : Below A₀ base [] h₀) (F : Fr h₀ L s.heap m) (X₀ : K.In h₀) (N : News h₀ L s.heap news) (T : Top p loose mean mg mb h₀) (hA : A.frames = some [env]) (hfr : env.frame = some L) (hck : env.scope.kind = .function)
    (ho : K.lookup f = some ⟨oc, od, .func (fnOf name qual params body scope dV kV doc pm an cdv ct), osl⟩) (hcd : codeIn K cdv qual = true) (hroom : A.depth < recursionLimit)
    (hbind : BindsTo s (fnOf name qual params body scope dV kV doc pm an cdv ct) args binds) (hloc : ∀ y ∈ binds, scope.names.lookup y.1 = some .local)
    (h : ∀ g L' h₁, Fr h₀ L g m → Fr g L' h₁ (fun y => binds.reverse.lookup y) → News g L' h₁ news → Below A base [env] g → K.In g → Top p loose mean mg mb g → KtsDicts ([env].filterMap (·.frame)) g →
      wpAny (model prog w) (A.deeper (envOf qual scope L' f cdv)) (execs body (envOf qual scope L' f cdv))
        (fun fl s' => LeaveS0 ([env].filterMap (·.frame)) h₀ L m g R (match fl with | .ret v => v | _ => .none) s')
        (fun e s' => wpAny (model prog w) (A.deeper (envOf qual scope L' f cdv)) (leaving (envOf qual scope L' f cdv) e) (fun _ s'' => R (.error e) s'') (fun e' s'' => R (.error e') s'') s')
        { s with heap := h₁, toks := s.toks + binds.length })
    (hco : scope.isCoroutine = false) (hgen : scope.isGenerator = false) (hk : scope.kind = .function)
    (hcell : ∀ x ∈ scope.names, x.2 ≠ .cell) : codeAny (model prog w) A (.call (.ref f) args) R s := by
  have X := X₀.keeps F.keep
  have fl1 : [env].filterMap (·.frame) = [L] := by simp [hfr]
  refine codeAny_call_def (fd := fnOf name qual params body scope dV kV doc pm an cdv ct) (body := body) (binds := binds) hroom (X _ _ ho) rfl (T.nolimit.keeps F.keep) (codeRec_of X hcd) rfl hbind hcell hloc (fun h₁ hns hk₁ => ?_) hco hgen hk
  obtain ⟨oL, es, ep, hLg, hLd, hN, hNs, st, B₂⟩ := enterX B F N hA hfr hck
  refine wpAny_mono (h _ s.heap.objs.size h₁ ⟨hN _ hLg, st, F.above⟩ ⟨hns, fun b o e => hk₁ b o (of_hideAll _ e), Nat.le_of_eq (hideAll_size _ _)⟩
    (fun p hp => ⟨hk₁ _ _ (N p hp).1, Nat.ne_of_lt (Heap.lt_size (N p hp).1), hideAll_none _ (List.mem_map_of_mem hp)⟩) B₂ (X₀.keeps st) (T.keeps st) (fun b hb => by
      rw [fl1] at hb
      rw [List.mem_singleton.mp hb]
      exact ⟨oL, es, ep, hLg, hLd⟩)) (fun fl s' hl => ?_) fun _ _ y => y
  rw [fl1] at hl
  obtain ⟨g', L', m', news', T', F', N', k⟩ := hl
  have nL₀ : h₀.get? L = none := kts_self F
  obtain ⟨sl, hs⟩ := T'.up hLg
  refine k ⟨hNs sl _ (F'.keep _ _ hs), fun b o e => F'.keep b o (T'.other b o (st b o e) (fun q => by
    rw [List.mem_singleton.mp q, nL₀] at e
    cases e)), F.above⟩ fun p hp => ⟨(N' p hp).1, fun q => ?_, ?_⟩
  · have := (N' p hp).2.2; rw [q, hs] at this; cases this
  · cases q : h₀.get? p.1 with
    | none => rfl
    | some o =>
      obtain ⟨sl', hs'⟩ := T'.up (st _ _ q)
      have := (N' p hp).2.2
      rw [hs'] at this
      cases this
end

/-- a call from the law's own frame -/
def CallsT (prog : Program) (w : World) (f : Addr) (k : Nat) (vs : List Value) (news : Led) (Post : Value → Led → Prop) : Prop :=
  ∀ (p : Program) (loose : List Str) (mean : ExcName → Option Value) (mg mb : Str → Option Value) (dp un : Nat) (gd : Option (List Code)) (cn : Str) (cs : Scope) (a : Addr) (ccd : Value) (cl : List (Str × Addr)) (A₀ : Around) (base h₀ : Heap) (L : Addr) (m : Str → Option Value) (s : Shared) (Q E : Value → Shared → Prop),
    Below A₀ base [] h₀ → Fr h₀ L s.heap m → (Mine.hd.heap_39 w.params).In h₀ → (Mine.hd.heap_39 w.params).In base → News h₀ L s.heap news → Top p loose mean mg mb h₀ → Top p loose mean mg mb base → cs.kind = .function →
    dp + k < recursionLimit → un + 8 * k < cLine →
    (∀ r h' tk' news', Fr h₀ L h' m → News h₀ L h' news' → Post r news' → Q r { s with heap := h', toks := tk' }) →
    wpAny (model prog w) (ktrTop dp un gd cn cs L a ccd cl []) (call (.ref f) vs) Q E s

theorem CallsE.use {prog : Program} {w : World} {f C : Addr} {k : Nat} {vs : List Value} {news : Led} {Post : Value → Led → Prop} {Err : Prop} {p : Program} {loose : List Str} {mean : ExcName → Option Value} {mg mb : Str → Option Value} {dp un : Nat} {gd : Option (List Code)} {cn : Str} {cs : Scope} {a : Addr} {ccd : Value} {cl : List (Str × Addr)} {outer : List Env} {A₀ : Around} {base h₀ : Heap} {L : Addr} {m : Str → Option Value} {s : Shared} {Q E : Value → Shared → Prop}
    (H : CallsE prog w f k vs news Post C Err) (B : Below A₀ base outer h₀) (F : Fr h₀ L s.heap m) (X : (Mine.hd.heap_39 w.params).In h₀) (N : News h₀ L s.heap news) (T : Top p loose mean mg mb h₀) (hk : cs.kind = .function)
    (hd : dp + k < recursionLimit) (hu : un + 8 * k < cLine)
    (ret : ∀ r h' tk' news', Fr h₀ L h' m → News h₀ L h' news' → Post r news' → Q r { s with heap := h', toks := tk' })
    (err : ∀ e t vs' G h' tk', RaisedS base G (envX cn cs L a ccd cl :: outer) e (.ref C) t vs' news h' → Fr h₀ L G m → G.UpToSlots h' → Err → E (.ref e) { s with heap := h', toks := tk' }) :
    wpAny (model prog w) (ktrTop dp un gd cn cs L a ccd cl outer) (call (.ref f) vs) Q E s := H p loose mean mg mb dp un gd cn cs a ccd cl outer A₀ base h₀ L m s Q E B F X N T hk hd hu ret err

def HeardPost (R : List (Str × Str)) (name section_ : Str) (news : Led) (r : Value) (news' : Led) : Prop :=
  (∀ p ∈ news, p ∈ news') ∧ ((∃ q a b ta tb n, r = .ref q ∧ (q, tup [.int a ta, .int b tb] n) ∈ news' ∧ FoundOf (secEndSpec R) R name section_ R.length [(a, b)]) ∨ (r = .none ∧ ∃ ds, FoundOf (secEndSpec R) R name section_ R.length ds ∧ ds.length ≠ 1))

local macro_rules | `(tactic| k_all) => `(tactic| assumption)
local macro_rules | `(tactic| k_mem) => `(tactic| assumption)
local macro_rules | `(tactic| walk_at "my_steps") => `(tactic| repeat' (
  fail_if_success (with_reducible show wpAny _ _ (call (Value.ref 116) _) _ _ _);
  first | (k_unfold; (try dsimp only)) | (k_end; wrow_close) | walk1 | (dsimp only; walk1) | (leave1; walk_say "STEP leave1"; try dsimp only) | fail "no step"))
set_option maxHeartbeats 4000000 in
theorem heard_ok (prog : Program) (w : World) (p pair lr : Addr) (using_ : Value) (vs : List Value) (nl np : Nat) (R : List (Str × Str)) (name section_ : Str) (tn ts : Tok) (news : Led)
    (hP : ProcAt news p lr using_) (hl : (lr, listOf vs.toArray nl) ∈ news) (hp : Pars news vs R) (hR : R.length ≤ 1000) (hpair : (pair, tup [.str name tn, .str section_ ts] np) ∈ news) (hname : name.length ≤ 100) :
    CallsT prog w 150 30 [.ref p, .ref pair] news (HeardPost R name section_ news) := by
  intro pr loose mean mg mb dp un gd cn cs af ccd cl A₀ base h₀ L m s Q E B F X XB N T TB hk hd hu hret
  have hP' := id hP
  obtain ⟨dp', c1, c2, k1, k2, n', hp1, hp2⟩ := hP'
  refine wpAny_call ?_
  k_dflt (refine' code_defS0X ?k1 ?k2 ?k3 ?k4 ?k5 ?kA ?kF ?kK ?k6 ?k7 ?k8 ?k9 ?kB ?_ ?c2 ?c3 ?c4 ?c5; (case kA => exact rfl); (case kF => exact rfl); (case kK => assumption); (case k2 => k_asm); (case k1 => k_asm); (case k3 => k_asm); (case k4 => k_asm); (case k5 => k_asm); (case k6 => k_is); (case k7 => k_is); (case k8 => ktr_room); (case k9 => exact BindsTo.of_eq rfl); (case kB => exact locs rfl); (case c2 => exact rfl); (case c3 => exact rfl); (case c4 => exact rfl); (case c5 => decide); k_whole; intro g1 L1 h1 FG1 F1 N1 B1 X1 T1 D1; (try dsimp only); (try k_fold))
  walk_at "my_steps"
  refine' CallsE.use (range_of_ok prog w p pair lr using_ vs nl np R name section_ tn ts news hP hl hp hR hpair hname) ?B ?F ?X ?N ?T ?k ?d ?u ?_ ?err
  case N => k_asm
  case B => exact B1
  case F => k_asm
  case X => k_asm
  case T => k_asm
  case k => exact rfl
  case d => ktr_room
  case u => ktr_units
  · rintro r h9 tk9 news9 F9 N9 ⟨hsub, q, a, b, ta, tb, n, rfl, hq, hfo⟩
    walk_at "my_steps"
    exact hret _ _ _ _ (by k_asm) (by k_asm) ⟨hsub, .inl ⟨q, a, b, ta, tb, n, rfl, hq, hfo⟩⟩
  · rintro e t vs' G h9 tk9 hR9 FG9 hU9 ⟨ds, hfo, hlen⟩
    k_dflt (refine' caught_SO0 hR9 FG9 B1 hU9 ?XB ?TB D1 KtsTurn.refl ?ex ?q ?_; (case XB => exact XB); (case TB => exact TB); (case ex => k_is); (case q => kts_isx); k_whole)
    intro h' g' n₂ T' F' N₂ G' N' K' X' P' D'
    walk_at "my_steps"
    exact hret _ _ _ _ (by k_asm) (by assumption) ⟨fun _ h => h, .inr ⟨rfl, ds, hfo, hlen⟩⟩
end Mine
end
section
namespace Mine

theorem News.sub {h₀ h : Heap} {L : Addr} {n n' : Led} (N : News h₀ L h n) (hs : ∀ p ∈ n', p ∈ n) : News h₀ L h n' := fun p hp => N p (hs p hp)
theorem News.drop3 {h₀ h : Heap} {L : Addr} {x y z : Addr × Obj} {n : Led} (N : News h₀ L h (x :: y :: z :: n)) : News h₀ L h (x :: y :: n) := News.sub N fun p hp => by
  simp only [List.mem_cons] at hp ⊢
  rcases hp with h | h | h <;> simp [h]
theorem source_ok (prog : Program) (w : World) (l : Addr) (ns : List Int) (items : List Value) (hi : IntsAre items ns) (hn : ns.length ≤ 63) (a1 a2 : Addr) (o1 o2 : Obj)
  (p : Program) (loose : List Str) (mean : ExcName → Option Value) (mg mb : Str → Option Value) (dp un : Nat) (gd : Option (List Code)) (cn : Str) (cs : Scope) (af : Addr) (ccd : Value) (cl : List (Str × Addr)) (outer : List Env) (A₀ : Around) (base h₀ : Heap) (L : Addr) (m : Str → Option Value) (s : Shared) (Q E : Value → Shared → Prop)
  (hL : h₀.IsList l items.toArray) (B : Below A₀ base outer h₀) (F : Fr h₀ L s.heap m) (X : (Mine.hd.heap_39 w.params).In h₀) (N : News h₀ L s.heap [(a1, o1), (a2, o2)]) (T : Top p loose mean mg mb h₀) (hk : cs.kind = .function)
  (hd : dp + 5 < recursionLimit) (hu : un + 8 * 5 < cLine)
  (hret : ∀ src c cells cns n1 n2 ta h' tk', Fr h₀ L h' m → News h₀ L h' [(src, listOf #[.ref c, .int 0 ta] n1), (c, listOf cells.toArray n2), (a1, o1), (a2, o2)] → c < src → a1 < src → a2 < src → a1 ≠ c → a2 ≠ c → IntsAre cells cns → 0 < cns.length → cns.length ≤ 60 →
     Q (.ref src) { s with heap := h', toks := tk' }) :
    wpAny (model prog w) (ktrTop dp un gd cn cs L af ccd cl outer) (call (.ref 136) [.ref l]) Q E s := by
  refine wpAny_call ?_
  k_dflt ktr_enter
  rename_i g1 L1 hh1 FG1 Fa Na B1 X1 T1
  have hL1 : g1.IsList l items.toArray := (let ⟨o, a, b, c⟩ := hL; ⟨o, FG1.keep _ _ a, b, c⟩)
  k_steps
  · rename (_ < _ ∧ _ < _ ∧ a1 < _ ∧ a2 < _) => h2
    rename (_ ≠ _ ∧ a1 ≠ _ ∧ a2 ≠ _) => q1
    refine hret _ _ _ _ _ _ _ _ _ (by k_asm) (News.drop3 (by k_asm)) h2.1 h2.2.2.1 h2.2.2.2 q1.2.1 q1.2.2 (by k_asm) ?_ ?_
    · assumption
    · rw [List.length_map, List.length_take]; omega
  · rename (_ < _ ∧ _ < _ ∧ _ < _ ∧ a1 < _ ∧ a2 < _) => h2
    rename (_ < _ ∧ _ < _ ∧ a1 < _ ∧ a2 < _) => h1
    refine hret _ _ _ _ _ _ _ _ _ (by k_asm) (News.drop3 (News.drop3 (by k_asm))) h2.1 h2.2.2.2.1 h2.2.2.2.2 (Nat.ne_of_lt h1.2.2.1) (Nat.ne_of_lt h1.2.2.2) (IntsAre.cons _ _ (.nil)) ?_ ?_
    · simp
    · simp
end Mine
end
section
namespace Mine

theorem getD_app {α : Type} (l r : List α) (d : α) (n : Nat) (h : n < l.length) : (l ++ r).getD n d = l.getD n d := by
  simp [List.getD, List.getElem?_append_left h]
def isName (v : Value) : Bool := match v with | .str x _ => PySem.PyData.strOk x && decide (x.length ≤ 10) | _ => false
theorem isName_of {v : Value} (h : isName v = true) : ∃ x t, v = .str x t ∧ PySem.PyData.strOk x = true ∧ x.length ≤ 10 := by
  cases v with
  | str x t =>
    simp only [isName, Bool.and_eq_true, decide_eq_true_eq] at h
    exact ⟨x, t, rfl, h.1, h.2⟩
  | _ => simp [isName] at h

section
variable {prog : Program} {w : World} {A : Around} {E : Value → Shared → Prop} {s : Shared} {K : Frag} {h₀ : Heap} {L : Addr} {m : Str → Option Value} {a : Addr} {n : Nat}
theorem names_at {value slice : Expr} {l : List Value} {dd : Option Addr} {sl : Array (Option Value)} {k : Int} {u : Tok} {Q : Value → Shared → Prop} (F : Fr h₀ L s.heap m) (X₀ : K.In h₀) (hl : K.lookup a = some ⟨.type "tuple", dd, .seq l.toArray n, sl⟩)
    (hall : l.all isName = true) (hlen : l.length = 4) (h0 : 0 ≤ k) (h1 : k < 4) (h : ∀ x t, PySem.PyData.strOk x = true → x.length ≤ 10 → Q (.str x t) s)
    (hs : subscripted slice false (.ref a) (.int k u) = operate [.ref a, .int k u] (getItem (.ref a) (.int k u)) := by with_unfolding_all rfl) :
    wpAny (model prog w) A (subscriptTail value slice (.ref a) (.int k u)) Q E s := by
  have hk : k.toNat < l.length := by omega
  obtain ⟨x, t, hv, h2, h3⟩ := isName_of (List.all_eq_true.mp hall _ (List.getElem_mem hk))
  refine topTup_K (j := k.toNat) F X₀ hl (by omega) (by omega) ?_ (List.getElem?_eq_getElem hk) ?_ hs
  · unfold seqIndex?
    have e1 : ¬ k < 0 := by omega
    simp [hlen, e1, h0, h1]
  · rw [hv]
    exact h x t h2 h3
end

section
variable {M : Model} {A : Around} {E : Value → Shared → Prop} {s : Shared} {h₀ : Heap} {L a : Addr} {m : Str → Option Value} {cn : Str} {cs : Scope} {ccd : Value} {cl : List (Str × Addr)}
  {x : Str} {v : Value} {Q : Unit → Shared → Prop} {news : List (Addr × Obj)} {c : Addr} {o : Obj} {v₀ : Option Value}
theorem store_cellS (F : Fr h₀ L s.heap m) (N : News h₀ L s.heap news) (hc : cl.lookup x = some c) (hm : (c, o) ∈ news) (hd : o.data = .cell v₀)
    (h : ∀ h' o', Fr h₀ L h' m → (∀ nx : Led, (∀ p ∈ nx, p ∈ news ∧ p.1 ≠ c) → News h₀ L h' ((c, o') :: nx)) → o'.data = .cell (some v) → Q () { s with heap := h' })
    (hk : cs.kind = .function := by rfl) (hx : (envX cn cs L a ccd cl).kindOf x = some .cell := by rfl) : wpAny M A (storeName (envX cn cs L a ccd cl) x v) Q E s := by
  have hmem := N (c, o) hm
  refine wpAny_storeName_cell hk hx hc ⟨o, hmem.1, hd⟩ fun h' hv hs => ?_
  obtain ⟨o', ho', hd'⟩ := hv
  refine h h' o' (F.change hs hmem.2.1 hmem.2.2) (fun nx hnx p hp => ?_) hd'
  rcases List.mem_cons.mp hp with rfl | hp
  · exact ⟨ho', hmem.2.1, hmem.2.2⟩
  · have q := hnx p hp
    have y := N p q.1
    exact ⟨(hs.2 _ q.2).trans y.1, y.2⟩
end

def WfR (R : List (Str × Str)) : Prop := ∀ k : Int, 0 < k → k < R.length → nm R k ≠ Str.ofString "" → sec R k = sec R (k - 1)
/-- what the building loop keeps of the rows: the section told last is the one at hand -/
structure RowsG (R : List (Str × Str)) (sc : Str) : Prop where
  ok : RowsOk R
  wf : WfR R
  last : R.length ≠ 0 → sec R (R.length - 1) = sc

theorem strOk_emp : PySem.PyData.strOk Str.empty = true := by decide +kernel
theorem nm_lt {R : List (Str × Str)} {k : Int} (x : Str × Str) (h0 : 0 ≤ k) (h : k < R.length) : nm (R ++ [x]) k = nm R k := by
  unfold nm; rw [getD_app _ _ _ _ (by omega)]
theorem sec_lt {R : List (Str × Str)} {k : Int} (x : Str × Str) (h0 : 0 ≤ k) (h : k < R.length) : sec (R ++ [x]) k = sec R k := by
  unfold sec; rw [getD_app _ _ _ _ (by omega)]
theorem nm_at {R : List (Str × Str)} (x : Str × Str) {k : Int} (h : k = R.length) : nm (R ++ [x]) k = x.1 := by
  subst h; simp [nm, List.getD]
theorem sec_at {R : List (Str × Str)} (x : Str × Str) {k : Int} (h : k = R.length) : sec (R ++ [x]) k = x.2 := by
  subst h; simp [sec, List.getD]
theorem RowsG.nil : RowsG [] (Str.ofString "") :=
  ⟨fun k => by simp only [nm, sec, List.getD_nil]; exact ⟨strOk_emp, strOk_emp⟩, fun k h0 h1 => by simp at h1; omega, fun h => absurd rfl h⟩
theorem RowsOk.snoc {R : List (Str × Str)} {a b : Str} (h : RowsOk R) (ha : PySem.PyData.strOk a = true) (hb : PySem.PyData.strOk b = true) : RowsOk (R ++ [(a, b)]) := fun k => by
  by_cases h1 : k.toNat < R.length
  · have e : (R ++ [(a, b)]).getD k.toNat (Str.empty, Str.empty) = R.getD k.toNat (Str.empty, Str.empty) := getD_app _ _ _ _ h1
    simp only [nm, sec, e]
    exact h k
  · by_cases h2 : k.toNat = R.length
    · have e : (R ++ [(a, b)]).getD k.toNat (Str.empty, Str.empty) = (a, b) := by rw [h2]; simp [List.getD]
      simp only [nm, sec, e]
      exact ⟨ha, hb⟩
    · have e : (R ++ [(a, b)]).getD k.toNat (Str.empty, Str.empty) = (Str.empty, Str.empty) := by
        rw [List.getD, List.getElem?_eq_none (by simp; omega)]; rfl
      simp only [nm, sec, e]
      exact ⟨strOk_emp, strOk_emp⟩
theorem RowsG.snoc {R : List (Str × Str)} {sc a b : Str} (h : RowsG R sc) (ha : PySem.PyData.strOk a = true) (hb : PySem.PyData.strOk b = true) (hc : a = Str.ofString "" ∨ b = sc) : RowsG (R ++ [(a, b)]) b := by
  refine ⟨h.ok.snoc ha hb, fun k h0 h1 hn => ?_, fun _ => sec_at _ (by simp)⟩
  rw [List.length_append, List.length_singleton] at h1
  by_cases hk : k < R.length
  · rw [nm_lt _ (by omega) hk] at hn
    rw [sec_lt _ (by omega) hk, sec_lt _ (by omega) (by omega)]
    exact h.wf k h0 hk hn
  · have e : k = R.length := by omega
    rw [nm_at _ e] at hn
    rw [sec_at _ e, sec_lt _ (by omega) (by omega), e, h.last (by omega)]
    rcases hc with hc | hc
    · exact absurd hc hn
    · exact hc

theorem RowsV.nil {news : Led} : RowsV news [] [] := ⟨rfl, fun k h0 h1 => by simp at h1; omega⟩
theorem RowsV.snoc {news news' : Led} {vs : List Value} {R : List (Str × Str)} {t : Addr} {a b : Str} {ta tb : Tok} {n : Nat} (h : RowsV news vs R) (hs : ∀ p ∈ news, p ∈ news') (ht : (t, tup [.str a ta, .str b tb] n) ∈ news') : RowsV news' (vs ++ [.ref t]) (R ++ [(a, b)]) := by
  refine ⟨by simp [h.1], fun k h0 h1 => ?_⟩
  rw [List.length_append, List.length_singleton] at h1
  by_cases hk : k < R.length
  · obtain ⟨t', n', ta', tb', hx, hm⟩ := h.2 k h0 hk
    refine ⟨t', n', ta', tb', ?_, ?_⟩
    · rw [List.getElem?_append_left (by rw [h.1]; omega)]; exact hx
    · rw [nm_lt _ h0 hk, sec_lt _ h0 hk]; exact hs _ hm
  · have e : k = R.length := by omega
    refine ⟨t, n, ta, tb, ?_, ?_⟩
    · rw [List.getElem?_append_right (by rw [h.1]; omega), h.1, e]; simp
    · rw [nm_at _ e, sec_at _ e]; exact ht

/-- the law's ledger while the rows are built -/
def LawW (src c cr cb : Addr) (cells : List Value) (n1 n2 : Nat) (m : Str → Option Value) (R : List (Str × Str)) (nx : Led) : Prop :=
  ∃ lr vs nl at_ ta ocr ocb rest, nx = (src, listOf #[.ref c, .int at_ ta] n1) :: (lr, listOf vs.toArray nl) :: (cr, ocr) :: (cb, ocb) :: rest ∧ 0 ≤ at_ ∧ m (Str.ofString "source") = some (.ref src) ∧
    ocr.data = .cell (some (.ref lr)) ∧ ocb.data = .cell none ∧ (c, listOf cells.toArray n2) ∈ rest ∧ RowsV rest vs R ∧ (src ≠ lr ∧ src ≠ cr ∧ src ≠ cb ∧ lr ≠ cr ∧ lr ≠ cb ∧ cr ≠ cb) ∧ ∀ p ∈ rest, p.1 ≠ src ∧ p.1 ≠ lr ∧ p.1 ≠ cr ∧ p.1 ≠ cb

theorem lawW_mk {h₀ h' : Heap} {L : Addr} {m : Str → Option Value} {src c cr cb lr : Addr} {cells : List Value} {n1 n2 nl : Nat} {R : List (Str × Str)} {vs : List Value} {at_ : Int} {ta : Tok} {led ext : Led} {o' ob : Obj}
    (F : Fr h₀ L h' m) (hN : ∀ nx : Led, (∀ p ∈ nx, p ∈ led ∧ p.1 ≠ cr) → News h₀ L h' ((cr, o') :: nx)) (hd : o'.data = .cell (some (.ref lr))) (hm : m (Str.ofString "source") = some (.ref src))
    (hsrc : (src, listOf #[.ref c, .int at_ ta] n1) ∈ led) (hlr : (lr, listOf vs.toArray nl) ∈ led) (hc : (c, listOf cells.toArray n2) ∈ led) (hcb : (cb, ob) ∈ led) (hbd : ob.data = .cell none) (hext : ∀ p ∈ ext, p ∈ led)
    (hV : RowsV ext vs R) (h0 : 0 ≤ at_) (d1 : src ≠ lr ∧ src ≠ cr ∧ src ≠ cb ∧ lr ≠ cr ∧ lr ≠ cb ∧ cr ≠ cb) (d2 : c ≠ src ∧ c ≠ lr ∧ c ≠ cr ∧ c ≠ cb) (d3 : ∀ p ∈ ext, p.1 ≠ src ∧ p.1 ≠ lr ∧ p.1 ≠ cr ∧ p.1 ≠ cb) :
    ∃ nx, News h₀ L h' nx ∧ LawW src c cr cb cells n1 n2 m R nx := by
  refine ⟨(src, listOf #[.ref c, .int at_ ta] n1) :: (lr, listOf vs.toArray nl) :: (cr, o') :: (cb, ob) :: (c, listOf cells.toArray n2) :: ext, ?_, lr, vs, nl, at_, ta, o', ob, _, rfl, h0, hm, hd, hbd, .head _, ?_, d1, ?_⟩
  · have N := hN ((src, listOf #[.ref c, .int at_ ta] n1) :: (lr, listOf vs.toArray nl) :: (cb, ob) :: (c, listOf cells.toArray n2) :: ext) (fun p hp => by
      simp only [List.mem_cons] at hp
      rcases hp with rfl | rfl | rfl | rfl | hp
      · exact ⟨hsrc, d1.2.1⟩
      · exact ⟨hlr, d1.2.2.2.1⟩
      · exact ⟨hcb, Ne.symm d1.2.2.2.2.2⟩
      · exact ⟨hc, d2.2.2.1⟩
      · exact ⟨hext p hp, (d3 p hp).2.2.1⟩)
    refine News.sub N fun p hp => ?_
    simp only [List.mem_cons] at hp ⊢
    rcases hp with h | h | h | h | h | h <;> simp [h]
  · exact hV.mono fun p hp => .tail _ hp
  · intro p hp
    rcases List.mem_cons.mp hp with rfl | hp
    · exact d2
    · exact d3 p hp
theorem News.swap {h₀ h : Heap} {L : Addr} {x y : Addr × Obj} {n : Led} (N : News h₀ L h (x :: y :: n)) : News h₀ L h (y :: x :: n) := News.sub N fun p hp => by
  simp only [List.mem_cons] at hp ⊢
  rcases hp with h | h | h <;> simp [h]
theorem lawW_app {h₀ h' : Heap} {L : Addr} {m' : Str → Option Value} {src c cr cb lr D I : Addr} {cells : List Value} {n1 n2 nl : Nat} {R : List (Str × Str)} {vs : List Value} {at_ : Int} {ta t1 t2 : Tok} {rest : Led} {o ocr ocb : Obj} {a b : Str}
    (hN : ∀ nx : Led, (∀ p ∈ nx, p ∈ (D, tup [.str a t1, .str b t2] 0) :: (src, listOf #[.ref c, .int at_ ta] n1) :: (I, o) :: (lr, listOf vs.toArray nl) :: (cr, ocr) :: (cb, ocb) :: rest ∧ p.1 ≠ lr) → News h₀ L h' ((lr, listOf (vs.toArray.push (.ref D)) (nl + 1)) :: nx))
    (l1 : ∀ p ∈ (src, listOf #[.ref c, .int at_ ta] n1) :: (I, o) :: (lr, listOf vs.toArray nl) :: (cr, ocr) :: (cb, ocb) :: rest, p.1 < D)
    (hI : ∀ p : Addr × Obj, p.1 = src ∨ p.1 = lr ∨ p.1 = cr ∨ p.1 = cb ∨ p ∈ rest → p.1 ≠ I) (h0 : 0 ≤ at_) (hm : m' (Str.ofString "source") = some (.ref src))
    (hd : ocr.data = .cell (some (.ref lr))) (hbd : ocb.data = .cell none) (hc : (c, listOf cells.toArray n2) ∈ rest) (hV : RowsV rest vs R) (d1 : src ≠ lr ∧ src ≠ cr ∧ src ≠ cb ∧ lr ≠ cr ∧ lr ≠ cb ∧ cr ≠ cb) (d2 : ∀ p ∈ rest, p.1 ≠ src ∧ p.1 ≠ lr ∧ p.1 ≠ cr ∧ p.1 ≠ cb) :
    ∃ nx, News h₀ L h' ((I, o) :: nx) ∧ (∀ p ∈ nx, p.1 ≠ I) ∧ LawW src c cr cb cells n1 n2 m' (R ++ [(a, b)]) nx := by
  have DI : D ≠ I := Nat.ne_of_gt (l1 (I, o) (.tail _ (.head _)))
  have Ds : D ≠ src := Nat.ne_of_gt (l1 (src, _) (.head _))
  have Dl : D ≠ lr := Nat.ne_of_gt (l1 (lr, _) (.tail _ (.tail _ (.head _))))
  have Dr : D ≠ cr := Nat.ne_of_gt (l1 (cr, _) (.tail _ (.tail _ (.tail _ (.head _)))))
  have Db : D ≠ cb := Nat.ne_of_gt (l1 (cb, _) (.tail _ (.tail _ (.tail _ (.tail _ (.head _))))))
  have Il : I ≠ lr := fun e => hI (lr, o) (.inr (.inl rfl)) e.symm
  refine ⟨(src, listOf #[.ref c, .int at_ ta] n1) :: (lr, listOf (vs ++ [Value.ref D]).toArray (nl + 1)) :: (cr, ocr) :: (cb, ocb) :: (D, tup [.str a t1, .str b t2] 0) :: rest, ?_, ?_, lr, _, _, at_, ta, ocr, ocb, _, rfl, h0, hm, hd, hbd, .tail _ hc, hV.snoc (fun p hp => .tail _ hp) (.head _), d1, ?_⟩
  · have N := hN ((src, listOf #[.ref c, .int at_ ta] n1) :: (I, o) :: (cr, ocr) :: (cb, ocb) :: (D, tup [.str a t1, .str b t2] 0) :: rest) (fun p hp => by
      simp only [List.mem_cons] at hp ⊢
      rcases hp with rfl | rfl | rfl | rfl | rfl | hp
      · exact ⟨.inr (.inl rfl), d1.1⟩
      · exact ⟨.inr (.inr (.inl rfl)), Il⟩
      · exact ⟨.inr (.inr (.inr (.inr (.inl rfl)))), Ne.symm d1.2.2.2.1⟩
      · exact ⟨.inr (.inr (.inr (.inr (.inr (.inl rfl))))), Ne.symm d1.2.2.2.2.1⟩
      · exact ⟨.inl rfl, Dl⟩
      · exact ⟨.inr (.inr (.inr (.inr (.inr (.inr hp))))), (d2 p hp).2.1⟩)
    rw [List.push_toArray] at N
    refine News.sub N fun p hp => ?_
    simp only [List.mem_cons] at hp ⊢
    rcases hp with h | h | h | h | h | h | h <;> simp [h]
  · intro p hp
    simp only [List.mem_cons] at hp
    rcases hp with rfl | rfl | rfl | rfl | rfl | hp
    · exact hI (src, o) (.inl rfl)
    · exact hI (lr, o) (.inr (.inl rfl))
    · exact hI (cr, o) (.inr (.inr (.inl rfl)))
    · exact hI (cb, o) (.inr (.inr (.inr (.inl rfl))))
    · exact DI
    · exact hI _ (.inr (.inr (.inr (.inr hp))))
  · intro p hp
    rcases List.mem_cons.mp hp with rfl | hp
    · exact ⟨Ds, Dl, Dr, Db⟩
    · exact d2 p hp
theorem ne_rest {src lr cr cb : Addr} {x y z : Obj} {rest : Led} (d1 : src ≠ lr ∧ src ≠ cr ∧ src ≠ cb ∧ lr ≠ cr ∧ lr ≠ cb ∧ cr ≠ cb) (d2 : ∀ p ∈ rest, p.1 ≠ src ∧ p.1 ≠ lr ∧ p.1 ≠ cr ∧ p.1 ≠ cb) : ∀ p ∈ (lr, x) :: (cr, y) :: (cb, z) :: rest, p.1 ≠ src := by
  intro p hp
  simp only [List.mem_cons] at hp
  rcases hp with rfl | rfl | rfl | hp
  · exact Ne.symm d1.1
  · exact Ne.symm d1.2.1
  · exact Ne.symm d1.2.2.1
  · exact (d2 p hp).1
theorem ne_rest2 {src lr cr cb I : Addr} {x y z o : Obj} {rest : Led} (hI : src ≠ I) (d1 : src ≠ lr ∧ src ≠ cr ∧ src ≠ cb ∧ lr ≠ cr ∧ lr ≠ cb ∧ cr ≠ cb) (d2 : ∀ p ∈ rest, p.1 ≠ src ∧ p.1 ≠ lr ∧ p.1 ≠ cr ∧ p.1 ≠ cb) : ∀ p ∈ (I, o) :: (lr, x) :: (cr, y) :: (cb, z) :: rest, p.1 ≠ src := by
  intro p hp
  rcases List.mem_cons.mp hp with rfl | hp
  · exact Ne.symm hI
  · exact ne_rest d1 d2 p hp
theorem hI_of {src lr cr cb I : Addr} {x y z t : Obj} {rest : Led} (hI : ∀ p ∈ (src, x) :: (lr, y) :: (cr, z) :: (cb, t) :: rest, p.1 ≠ I) : ∀ p : Addr × Obj, p.1 = src ∨ p.1 = lr ∨ p.1 = cr ∨ p.1 = cb ∨ p ∈ rest → p.1 ≠ I := by
  intro p hp
  rcases hp with h | h | h | h | h
  · rw [h]; exact hI _ (.head _)
  · rw [h]; exact hI _ (.tail _ (.head _))
  · rw [h]; exact hI _ (.tail _ (.tail _ (.head _)))
  · rw [h]; exact hI _ (.tail _ (.tail _ (.tail _ (.head _))))
  · exact hI _ (.tail _ (.tail _ (.tail _ (.tail _ h))))
section
variable {prog : Program} {w : World} {A : Around} {h₀ : Heap} {L : Addr} {m : Str → Option Value} {env : Env} {elt : Expr} {x : Str} {scope : Scope} {cl : List (Str × Addr)} {s : Shared} {S : List (Addr × Obj) → Prop} {P : Nat → Value → Prop} {Fin : List Value → List (Addr × Obj) → Prop} {news : List (Addr × Obj)}
theorem comp_rest {n : Nat} (J : Nat → List Value → Led → Prop)
    (turn : ∀ i v I oI C oC D m₂ ys nx h tk (E' : Value → Shared → Prop), i < n → P i v → LCg.NsObj oC m₂ → m₂ x = some v → Fr h₀ L h m → News h₀ L h ((I, oI) :: (C, oC) :: (D, LCg.lst ys) :: nx) → LCg.Off3 I C D nx → ((@Ne Nat I C) ∧ (@Ne Nat I D) ∧ (@Ne Nat C D)) → J i ys nx →
      wpAny (model prog w) A (eval elt (compEnvC scope cl C env)) (fun y s' => Cut (LCg.CompEnd h₀ L m { s with heap := h, toks := tk } I oI C oC D (LCg.lst ys) S (fun y nx' => J (i + 1) (ys ++ [y]) nx') y s')) E' { s with heap := h, toks := tk })
    (h0 : J 0 [] news) (fin : ∀ ys nx, J n ys nx → Fin ys nx) : LCg.CompRest prog w A h₀ L m env elt x scope cl s S P Fin n 0 [] news := by
  have key : ∀ (j i : Nat) (ys : List Value) (nx : Led), i + j = n → J i ys nx → LCg.CompRest prog w A h₀ L m env elt x scope cl s S P Fin j i ys nx := by
    intro j
    induction j with
    | zero =>
      intro i ys nx hi hy
      have e : i = n := by omega
      subst e
      exact LCg.CompRest.zero (fin ys nx hy)
    | succ j ih =>
      intro i ys nx hi hy
      refine LCg.CompRest.succ ?_
      intro v I oI C oC D m₂ h tk E' hv hC hx F N off ne
      refine wpAny_mono (turn i v I oI C oC D m₂ ys nx h tk E' (by omega) hv hC hx F N off ne hy) (fun y s₂ hq => ?_) fun _ _ e => e
      obtain ⟨h', tk', nw, e, F', N', off', hS, hn⟩ := Cut.out hq
      exact ⟨h', tk', nw, e, F', N', off', hS, ih (i + 1) _ nw (by omega) hn⟩
  exact key n 0 [] news (by omega) h0
end
def BodyOk (led : Led) (y : Value) : Prop := (∃ t, y = .ref t) ∧ ∃ d, PyData.canLay0 d = true ∧ PyData.depth d ≤ 10 ∧ ∀ (h₀ h : Heap) (L : Addr), News h₀ L h led → ∃ adr, Reads h y d adr
theorem BodyOk.mono {led led' : Led} {y : Value} (H : BodyOk led y) (hs : ∀ p ∈ led, p ∈ led') : BodyOk led' y :=
  let ⟨t, d, a, b, c⟩ := H; ⟨t, d, a, b, fun h₀ h L N => c h₀ h L (News.sub N hs)⟩
theorem ne3 {src a b c : Addr} {x y z : Obj} (h1 : a < src) (h2 : b < src) (h3 : c < src) : ∀ p ∈ [(a, x), (b, y), (c, z)], p.1 ≠ src := by
  intro p hp
  simp only [List.mem_cons, List.not_mem_nil, or_false] at hp
  rcases hp with rfl | rfl | rfl
  · exact Nat.ne_of_lt h1
  · exact Nat.ne_of_lt h2
  · exact Nat.ne_of_lt h3
end Mine
end
section
namespace Mine
theorem noFill_tuple_mul : fillsNumberSlot (.type "tuple") "mul" = pure false :=
  PySem.fillsNumberSlot_seq (id := "tuple.__mul__") (r := some (.builtin "tuple.__rmul__")) PySem.F.slot_tuple_mul.lookup (by decide +kernel) PySem.F.slot_tuple_rmul.lookup (by decide +kernel)
theorem repeat_tuple : seqRepeat? (.type "tuple") = pure (some (.builtin "tuple.__mul__")) := by
  unfold seqRepeat?
  rw [PySem.seqSlot_of (T := "tuple") (name := "__mul__") (id := "tuple.__mul__") PySem.F.slot_tuple_mul.lookup (by decide +kernel), PySem.seqSlot_of (T := "tuple") (name := "__rmul__") (id := "tuple.__rmul__") PySem.F.slot_tuple_rmul.lookup (by decide +kernel)]
  rfl
theorem int_rmul_tuple (a : Int) (t : Tok) (l : Addr) (items : Array Value) (n : Nat) (d : Option Addr) (sl : Array (Option Value)) :
    Meets (Builtin.«int.__rmul__» ⟨[.int a t, .ref l], []⟩) (fun _ R s => s.heap.get? l = some { cls := .type "tuple", dict := d, data := .seq items n, slots := sl } ∧ R (.ok (.ret Value.notImplemented)) s) :=
  .of_wp fun prog w A R s h => by obtain ⟨hp, g, d, tk, os⟩ := s; obtain ⟨hl, h⟩ := h; wp_walk; exact ⟨_, rfl, h⟩
theorem tuple_mul0 (l : Addr) (v : Value) (n : Nat) (d : Option Addr) (sl : Array (Option Value)) (u : Tok) :
    Meets (Builtin.«tuple.__mul__» ⟨[.ref l, .int 0 u], []⟩) (fun _ R s => s.heap.get? l = some { cls := .type "tuple", dict := d, data := .seq #[v] n, slots := sl } ∧ R (.ok (.ret (.ref s.heap.objs.size))) { s with heap := s.heap.push { cls := .type "tuple", data := .seq #[] } }) :=
  .of_wp fun prog w A R s h => by obtain ⟨hp, g, d, tk, os⟩ := s; obtain ⟨hl, h⟩ := h; wp_walk; exact ⟨_, rfl, h⟩
theorem tuple_mul1 (l : Addr) (v : Value) (n : Nat) (d : Option Addr) (sl : Array (Option Value)) (u : Tok) :
    Meets (Builtin.«tuple.__mul__» ⟨[.ref l, .int 1 u], []⟩) (fun _ R s => s.heap.get? l = some { cls := .type "tuple", dict := d, data := .seq #[v] n, slots := sl } ∧ R (.ok (.ret (.ref l))) s) :=
  .of_wp fun prog w A R s h => by obtain ⟨hp, g, d, tk, os⟩ := s; obtain ⟨hl, h⟩ := h; wp_walk; exact ⟨_, rfl, h⟩
theorem tuple_mul2 (l : Addr) (v : Value) (n : Nat) (d : Option Addr) (sl : Array (Option Value)) (u : Tok) :
    Meets (Builtin.«tuple.__mul__» ⟨[.ref l, .int 2 u], []⟩) (fun _ R s => s.heap.get? l = some { cls := .type "tuple", dict := d, data := .seq #[v] n, slots := sl } ∧ R (.ok (.ret (.ref s.heap.objs.size))) { s with heap := s.heap.push { cls := .type "tuple", data := .seq #[v, v] } }) :=
  .of_wp fun prog w A R s h => by obtain ⟨hp, g, d, tk, os⟩ := s; obtain ⟨hl, h⟩ := h; wp_walk; exact ⟨_, rfl, h⟩
def Above (ext news : Led) : Prop := ∀ p ∈ ext, ∀ q ∈ news, q.1 < p.1
section
variable {prog : Program} {w : World} {A : Around} {E : Value → Shared → Prop} {s : Shared} {h₀ : Heap} {L : Addr} {m : Str → Option Value} {news : Led}
theorem mul_tup {l : Addr} {v : Value} {n : Nat} {x : Int} {u : Tok} {Q : Value → Shared → Prop} (Fm : Fr h₀ L s.heap m) (N : News h₀ L s.heap news) (hm : (l, ({ cls := .type "tuple", data := .seq #[v] n } : Obj)) ∈ news) (h0 : 0 ≤ x) (h3 : x < 3)
    (h : ∀ D h' vs nn ext, Fr h₀ L h' m → News h₀ L h' (ext ++ news) → Above ext news → ((D, tup vs nn) ∈ ext ∨ (D, tup vs nn) = (l, tup [v] n)) → (∀ y ∈ vs, y = v) → vs.length ≤ 2 → Q (.ref D) { s with heap := h' }) :
    wpAny (model prog w) A (binaryOp .Mult (.ref l) (.int x u)) Q E s := by
  have ho := (N _ hm).1
  have hx : x = 0 ∨ x = 1 ∨ x = 2 := by omega
  have fin : ∀ (vs : List Value), (∀ y ∈ vs, y = v) → vs.length ≤ 2 → Q (.ref s.heap.objs.size) { s with heap := s.heap.push { cls := .type "tuple", data := .seq vs.toArray } } := fun vs h1 h2 =>
    h _ _ vs 0 [(s.heap.objs.size, tup vs 0)] (Fm.push _) (News.push Fm N _) (fun p hp q hq => by rw [List.mem_singleton.mp hp]; exact Heap.lt_size (N q hq).1) (.inl (.head _)) h1 h2
  rcases hx with rfl | rfl | rfl
  · exact wpAny_binaryOp_repeat_ref (T := "tuple") (U := "int") (by decide) ⟨_, ho, rfl⟩ (fun s' => typeIs_int s' 0 u) noFill_tuple_mul PySem.F.fills_int_mul PySem.F.slot_int_rmul repeat_tuple PySem.F.slot_int_index.lookup
      (call_meets PySem.F.slot_int_rmul (typeIs_int s 0 u) PySem.F.entry_int_rmul (PySem.F.args_int_rmul_2 _ _) (int_rmul_tuple 0 u l _ _ _ _)
        ⟨ho, rfl, ⟨_, ho, rfl⟩, call_meets PySem.F.slot_tuple_mul ⟨_, ho, rfl⟩ PySem.F.entry_tuple_mul (PySem.F.args_tuple_mul_2 _ _) (tuple_mul0 l v n _ _ u) ⟨ho, fin [] (by simp) (by simp)⟩⟩)
  · exact wpAny_binaryOp_repeat_ref (T := "tuple") (U := "int") (by decide) ⟨_, ho, rfl⟩ (fun s' => typeIs_int s' 1 u) noFill_tuple_mul PySem.F.fills_int_mul PySem.F.slot_int_rmul repeat_tuple PySem.F.slot_int_index.lookup
      (call_meets PySem.F.slot_int_rmul (typeIs_int s 1 u) PySem.F.entry_int_rmul (PySem.F.args_int_rmul_2 _ _) (int_rmul_tuple 1 u l _ _ _ _)
        ⟨ho, rfl, ⟨_, ho, rfl⟩, call_meets PySem.F.slot_tuple_mul ⟨_, ho, rfl⟩ PySem.F.entry_tuple_mul (PySem.F.args_tuple_mul_2 _ _) (tuple_mul1 l v n _ _ u) ⟨ho, h l _ [v] n [] Fm N (fun p hp => by simp at hp) (.inr rfl) (by simp) (by simp)⟩⟩)
  · exact wpAny_binaryOp_repeat_ref (T := "tuple") (U := "int") (by decide) ⟨_, ho, rfl⟩ (fun s' => typeIs_int s' 2 u) noFill_tuple_mul PySem.F.fills_int_mul PySem.F.slot_int_rmul repeat_tuple PySem.F.slot_int_index.lookup
      (call_meets PySem.F.slot_int_rmul (typeIs_int s 2 u) PySem.F.entry_int_rmul (PySem.F.args_int_rmul_2 _ _) (int_rmul_tuple 2 u l _ _ _ _)
        ⟨ho, rfl, ⟨_, ho, rfl⟩, call_meets PySem.F.slot_tuple_mul ⟨_, ho, rfl⟩ PySem.F.entry_tuple_mul (PySem.F.args_tuple_mul_2 _ _) (tuple_mul2 l v n _ _ u) ⟨ho, fin [v, v] (by simp) (by simp)⟩⟩)
end
theorem fmod3_lo (x : Int) : 0 ≤ x.fmod 3 := Int.fmod_nonneg_of_pos x (by omega)
theorem fmod3_hi (x : Int) : x.fmod 3 < 3 := Int.fmod_lt_of_pos x (by omega)

theorem body_depth {v : Value} {h : Heap} {adr : List Addr} {d : PyData} (R : Reads h v d adr) : ∀ {vs : List Value}, (∀ y ∈ vs, y = v) → ∃ as, ReadsAll h vs (List.replicate vs.length d) as
  | [], _ => ⟨_, .nil⟩
  | y :: r, hy => by
    obtain ⟨as, ra⟩ := body_depth R (vs := r) (fun z hz => hy z (.tail _ hz))
    have e := hy y (.head _)
    subst e
    exact ⟨_, .cons R ra⟩
theorem BodyOk.of {led : Led} {D t : Addr} {vs : List Value} {nn n : Nat} {x : Str} {u : Tok} (hD : (D, tup vs nn) ∈ led) (hv : ∀ y ∈ vs, y = .ref t) (hl : vs.length ≤ 2) (ht : (t, tup [.str x u] n) ∈ led) (hx : PyData.strOk x = true) : BodyOk led (.ref D) := by
  refine ⟨⟨_, rfl⟩, .tuple (List.replicate vs.length (.tuple [.str x])), ?_, ?_, fun h₀ h L N => ?_⟩
  · match vs, hl with
    | [], _ => rfl
    | [_], _ => simp [PyData.canLay0, PyData.canLayAll0, hx]
    | [_, _], _ => simp [PyData.canLay0, PyData.canLayAll0, hx]
    | _ :: _ :: _ :: _, h => simp at h
  · match vs, hl with
    | [], _ => simp [PyData.depth, PyData.depthAll]
    | [_], _ => simp [PyData.depth, PyData.depthAll]
    | [_, _], _ => simp [PyData.depth, PyData.depthAll]
    | _ :: _ :: _ :: _, h => simp at h
  · obtain ⟨as, ra⟩ := body_depth (reads_tuple_at (News.get N ht) rfl rfl (ReadsAll.cons (Reads.str x u) ReadsAll.nil)) hv
    exact ⟨_, reads_tuple_at (News.get N hD) rfl rfl ra⟩
/-- the end of an element that keeps the ledger's tail and puts new things ahead of it -/
theorem compEnd_ext {h₀ h' : Heap} {L : Addr} {m : Str → Option Value} {s₁ : Shared} {I C D : Addr} {oI oC oD : Obj} {rest : Value → Led → Prop} {y : Value} {tk : Nat} {nx ext : Led} (F : Fr h₀ L h' m) (N : News h₀ L h' (ext ++ (I, oI) :: (C, oC) :: (D, oD) :: nx))
    (hx : ∀ p ∈ ext, I < p.1 ∧ C < p.1 ∧ D < p.1) (off : LCg.Off3 I C D nx) (r : rest y (ext ++ nx)) :
    Cut (LCg.CompEnd h₀ L m s₁ I oI C oC D oD (fun _ => True) rest y { s₁ with heap := h', toks := tk }) := by
  refine Cut.intro ⟨h', tk, ext ++ nx, rfl, F, News.sub N fun p hp => ?_, LCg.Off3.of fun p hp => ?_, trivial, r⟩
  · simp only [List.mem_cons, List.mem_append] at hp ⊢
    rcases hp with h | h | h | h | h <;> simp [h]
  · rcases List.mem_append.mp hp with h | h
    · exact ⟨Nat.ne_of_gt (hx p h).1, Nat.ne_of_gt (hx p h).2.1, Nat.ne_of_gt (hx p h).2.2⟩
    · exact off.mem p h
theorem strOk_cont : PyData.strOk (Str.ofString "continue") = true := by decide +kernel
theorem body_end {h₀ h' : Heap} {L : Addr} {m : Str → Option Value} {s₁ : Shared} {I C D D1 D2 Db : Addr} {oI oC oD : Obj} {tk nn i : Nat} {e ext base : Led} {vs ys : List Value} {x : Str} {u : Tok} (F : Fr h₀ L h' m)
    (N : News h₀ L h' (ext ++ (D1, tup [.ref D2] 0) :: (D2, tup [.str x u] 0) :: (I, oI) :: (C, oC) :: (D, oD) :: (e ++ base))) (hx : Above ext ((D1, tup [.ref D2] 0) :: (D2, tup [.str x u] 0) :: (I, oI) :: (C, oC) :: (D, oD) :: (e ++ base)))
    (l2 : ∀ p ∈ (I, oI) :: (C, oC) :: (D, oD) :: (e ++ base), p.1 < D2) (l1 : ∀ p ∈ (D2, tup [.str x u] 0) :: (I, oI) :: (C, oC) :: (D, oD) :: (e ++ base), p.1 < D1) (off : LCg.Off3 I C D (e ++ base))
    (hm : (Db, tup vs nn) ∈ ext ∨ (Db, tup vs nn) = (D1, tup [.ref D2] 0)) (hv : ∀ y ∈ vs, y = .ref D2) (hl : vs.length ≤ 2) (hok : PyData.strOk x = true) (hab : Above e base) (hyl : ys.length = i) (hys : ∀ y ∈ ys, BodyOk e y) :
    Cut (LCg.CompEnd h₀ L m s₁ I oI C oC D oD (fun _ => True) (fun y nx' => ∃ e', nx' = e' ++ base ∧ Above e' base ∧ (ys ++ [y]).length = i + 1 ∧ ∀ y_1 ∈ ys ++ [y], BodyOk e' y_1) (.ref Db) { s₁ with heap := h', toks := tk }) := by
  have N' : News h₀ L h' ((ext ++ [(D1, tup [.ref D2] 0), (D2, tup [.str x u] 0)]) ++ (I, oI) :: (C, oC) :: (D, oD) :: (e ++ base)) := by simpa using N
  refine compEnd_ext F N' (fun p hp => ?_) off ⟨(ext ++ [(D1, tup [.ref D2] 0), (D2, tup [.str x u] 0)]) ++ e, by simp, fun p hp q hq => ?_, by simp [hyl], fun y hy => ?_⟩
  · rcases List.mem_append.mp hp with h | h
    · exact ⟨hx p h (I, oI) (by simp), hx p h (C, oC) (by simp), hx p h (D, oD) (by simp)⟩
    · simp only [List.mem_cons, List.not_mem_nil, or_false] at h
      rcases h with rfl | rfl
      · exact ⟨l1 (I, oI) (by simp), l1 (C, oC) (by simp), l1 (D, oD) (by simp)⟩
      · exact ⟨l2 (I, oI) (by simp), l2 (C, oC) (by simp), l2 (D, oD) (by simp)⟩
  · rcases List.mem_append.mp hp with h | h
    · rcases List.mem_append.mp h with h | h
      · exact hx p h q (by simp [hq])
      · simp only [List.mem_cons, List.not_mem_nil, or_false] at h
        rcases h with rfl | rfl
        · exact l1 q (by simp [hq])
        · exact l2 q (by simp [hq])
    · exact hab p h q hq
  · rcases List.mem_append.mp hy with h | h
    · exact (hys y h).mono fun p hp => List.mem_append_right _ hp
    · rw [List.mem_singleton.mp h]
      refine BodyOk.of (t := D2) (x := x) (u := u) (n := 0) (vs := vs) (nn := nn) ?_ hv hl (List.mem_append_left _ (by simp)) hok
      rcases hm with h | h
      · exact List.mem_append_left _ (List.mem_append_left _ h)
      · rw [h]; exact List.mem_append_left _ (by simp)

def JBod (base : Led) (i : Nat) (ys : List Value) (nx : Led) : Prop := ∃ e, nx = e ++ base ∧ Above e base ∧ ys.length = i ∧ ∀ y ∈ ys, BodyOk e y
theorem JBod.zero {base : Led} : JBod base 0 [] base := ⟨[], rfl, (fun p hp => by simp at hp), rfl, fun y hy => by simp at hy⟩
/-- the law's ledger once the bodies stand -/
def LawB (src c cr cb : Addr) (cells : List Value) (n1 n2 : Nat) (m : Str → Option Value) (R : List (Str × Str)) (nx : Led) : Prop :=
  ∃ (lr : Addr) (vs : List Value) (nl : Nat) (at_ : Int) (ta : Tok) (ocr ocb : Obj) (D : Addr) (ys : List Value) (nD : Nat) (led : Led), nx = (src, listOf #[.ref c, .int at_ ta] n1) :: led ∧ 0 ≤ at_ ∧ m (Str.ofString "source") = some (.ref src) ∧ (∀ p ∈ led, p.1 ≠ src) ∧ (c, listOf cells.toArray n2) ∈ led ∧
    (lr, listOf vs.toArray nl) ∈ led ∧ (cr, ocr) ∈ led ∧ ocr.data = .cell (some (.ref lr)) ∧ (cb, ocb) ∈ led ∧ ocb.data = .cell (some (.ref D)) ∧ (D, listOf ys.toArray nD) ∈ led ∧ RowsV led vs R ∧ ys.length = R.length ∧ ∀ y ∈ ys, BodyOk led y
theorem lawB_mk {h₀ h' : Heap} {L : Addr} {m : Str → Option Value} {src c cr cb lr D : Addr} {cells : List Value} {n1 n2 nl nD : Nat} {R : List (Str × Str)} {vs ys : List Value} {at_ : Int} {ta : Tok} {e rest : Led} {ocr ocb o' : Obj}
    (hN : ∀ nx : Led, (∀ p ∈ nx, p ∈ (D, listOf ys.toArray nD) :: (e ++ (src, listOf #[.ref c, .int at_ ta] n1) :: (lr, listOf vs.toArray nl) :: (cr, ocr) :: (cb, ocb) :: rest) ∧ p.1 ≠ cb) → News h₀ L h' ((cb, o') :: nx)) (hd : o'.data = .cell (some (.ref D)))
    (hab : Above e ((src, listOf #[.ref c, .int at_ ta] n1) :: (lr, listOf vs.toArray nl) :: (cr, ocr) :: (cb, ocb) :: rest)) (off : LCg.Off1 D (e ++ (src, listOf #[.ref c, .int at_ ta] n1) :: (lr, listOf vs.toArray nl) :: (cr, ocr) :: (cb, ocb) :: rest))
    (h0 : 0 ≤ at_) (hm : m (Str.ofString "source") = some (.ref src)) (hdr : ocr.data = .cell (some (.ref lr))) (hc : (c, listOf cells.toArray n2) ∈ rest) (hV : RowsV rest vs R) (hyl : ys.length = R.length) (hys : ∀ y ∈ ys, BodyOk e y)
    (d1 : src ≠ lr ∧ src ≠ cr ∧ src ≠ cb ∧ lr ≠ cr ∧ lr ≠ cb ∧ cr ≠ cb) (d2 : ∀ p ∈ rest, p.1 ≠ src ∧ p.1 ≠ lr ∧ p.1 ≠ cr ∧ p.1 ≠ cb) : ∃ nx, News h₀ L h' nx ∧ LawB src c cr cb cells n1 n2 m R nx := by
  have offm : ∀ {l : Led}, LCg.Off1 D l → ∀ p ∈ l, p.1 ≠ D := by
    intro l
    induction l with
    | nil => intro _ p hp; simp at hp
    | cons a r ih =>
      intro h p hp
      rcases List.mem_cons.mp hp with rfl | hp
      · exact h.1
      · exact ih h.2 p hp
  have of1 := offm off
  have Ds : D ≠ src := Ne.symm (of1 (src, listOf #[.ref c, .int at_ ta] n1) (by simp))
  have Db : D ≠ cb := Ne.symm (of1 (cb, ocb) (by simp))
  refine ⟨(src, listOf #[.ref c, .int at_ ta] n1) :: (cb, o') :: (lr, listOf vs.toArray nl) :: (cr, ocr) :: (D, listOf ys.toArray nD) :: (e ++ rest), ?_, lr, vs, nl, at_, ta, ocr, o', D, ys, nD, _, rfl, h0, hm, ?_, ?_, ?_, ?_, hdr, .head _, hd, ?_, ?_, hyl, ?_⟩
  · have N := hN ((src, listOf #[.ref c, .int at_ ta] n1) :: (lr, listOf vs.toArray nl) :: (cr, ocr) :: (D, listOf ys.toArray nD) :: (e ++ rest)) (fun p hp => by
      simp only [List.mem_cons, List.mem_append] at hp ⊢
      rcases hp with rfl | rfl | rfl | rfl | hp | hp
      · exact ⟨by simp, d1.2.2.1⟩
      · exact ⟨by simp, d1.2.2.2.2.1⟩
      · exact ⟨by simp, d1.2.2.2.2.2⟩
      · exact ⟨by simp, Db⟩
      · exact ⟨by simp [hp], Nat.ne_of_gt (hab p hp (cb, ocb) (by simp))⟩
      · exact ⟨by simp [hp], (d2 p hp).2.2.2⟩)
    exact News.swap N
  · intro p hp
    simp only [List.mem_cons, List.mem_append] at hp
    rcases hp with rfl | rfl | rfl | rfl | hp | hp
    · exact Ne.symm d1.2.2.1
    · exact Ne.symm d1.1
    · exact Ne.symm d1.2.1
    · exact Ds
    · exact Nat.ne_of_gt (hab p hp (src, listOf #[.ref c, .int at_ ta] n1) (by simp))
    · exact (d2 p hp).1
  · simp [hc]
  · simp
  · simp
  · simp
  · exact hV.mono fun p hp => by simp [hp]
  · intro y hy
    exact (hys y hy).mono fun p hp => by simp [hp]
end Mine
end
section
namespace Mine
theorem adjust_upto (b n : Nat) (hb : b ≤ n) : Builtin.Slice.sliceAdjust none (some (b : Int)) 1 (n : Int) = (0, (b : Int)) := by
  unfold Builtin.Slice.sliceAdjust
  have h1 : ¬ ((1 : Int) < 0) := by omega
  have h2 : ¬ ((b : Int) < 0) := by omega
  simp only [h1, h2, if_false]
  congr 1
  omega
theorem places_upto (b : Nat) : Builtin.Slice.slicePlaces 0 (b : Int) 1 = b := by
  unfold Builtin.Slice.slicePlaces
  have h1 : (1 : Int) > 0 := by omega
  simp only [h1, if_true, Int.ediv_one]
  split <;> omega
section
variable {prog : Program} {w : World} {A : Around} {E : Value → Shared → Prop} {s : Shared}
theorem sliceApplied_upto {sl : Addr} {b n : Nat} {u : Tok} {Q : Int × Int × Nat → Shared → Prop} (hs : s.heap.IsSliceOf sl .none (.int b u) .none) (hb : b ≤ n) (h : Q (0, 1, b) s) :
    wpAny (model prog w) A (Builtin.Slice.sliceApplied (.ref sl) (pure (n : Int))) Q E s := by
  obtain ⟨os, hos, hcs, hds⟩ := id hs
  unfold Builtin.Slice.sliceApplied Builtin.Slice.sliceFields
  refine wpAny_bind (wpAny_bind (wpAny_field hos hds (x := .none) rfl (wpAny_bind (wpAny_field hos hds (x := .int b u) rfl (wpAny_bind (wpAny_field hos hds (x := .none) rfl (wpAny_pure ?_)))))))
  refine wpAny_bind (slicePart_none ?_)
  show wpAny _ _ (if ((1 : Int) == 0) = true then _ else _) _ _ s
  rw [if_neg (by decide)]
  refine wpAny_bind (slicePart_none (wpAny_bind (slicePart_int (wpAny_bind (wpAny_pure ?_)))))
  show wpAny _ _ (match Builtin.Slice.sliceAdjust none (some (b : Int)) 1 (n : Int) with | (lo, hi) => pure (lo, (1 : Int), Builtin.Slice.slicePlaces lo hi 1)) _ _ s
  rw [adjust_upto b n hb]
  show wpAny _ _ (pure ((0 : Int), (1 : Int), Builtin.Slice.slicePlaces 0 (b : Int) 1)) _ _ s
  rw [places_upto b]
  exact wpAny_pure h
theorem pick_upto (xs : Array Value) (b : Nat) : ((List.range b).filterMap fun (k : Nat) => xs[((0 : Int) + (k : Int) * 1).toNat]?).toArray = (xs.toList.take b).toArray := by
  have e : (fun (k : Nat) => xs[((0 : Int) + (k : Int) * 1).toNat]?) = fun k => xs[0 + k]? := by
    funext k
    have : ((0 : Int) + (k : Int) * 1).toNat = 0 + k := by omega
    rw [this]
  rw [e]
  have := pick_run xs 0 b
  rw [List.filterMap_map] at this
  have e2 : ((fun x => xs[x]?) ∘ fun x => 0 + x) = fun k => xs[0 + k]? := rfl
  rw [e2] at this
  rw [this, List.drop_zero]
theorem getItem_tuple_upto {t sl : Addr} {items : Array Value} {b : Nat} {u : Tok} {Q : Value → Shared → Prop} (ht : IsTup s.heap t items) (hs : s.heap.IsSliceOf sl .none (.int b u) .none) (hb : b < items.size)
    (h : Q (.ref s.heap.objs.size) { s with heap := s.heap.push { cls := .type "tuple", data := .seq (items.toList.take b).toArray } })
    (hsz : items.size ≤ sizeLine) : wpAny (model prog w) A (getItem (.ref t) (.ref sl)) Q E s := by
  have hdrop : sizeOk (.seq (items.toList.take b).toArray) := by
    show (items.toList.take b).toArray.size ≤ sizeLine
    rw [List.size_toArray, List.length_take, Array.length_toList]
    omega
  obtain ⟨os, hos, hcs, hds⟩ := id hs
  have hTs : s.TypeIs (.ref sl) "slice" := ⟨os, hos, hcs⟩
  unfold getItem
  try with_reducible refine wpAny_holding ?_
  first | refine wpAny_bind (wpAny_pure ?_) | skip
  refine wpAny_bind (wpAny_sequenceKey ht.typeIs (by decide) ?_)
  refine wpAny_bind (wpAny_callSpecial?_slot (name := Str.ofString "__getitem__") ht.typeIs slot_tuple_getitem
    (wpAny_call_entry slot_tuple_getitem ht.typeIs entry_tuple_getitem ?_ (args_tuple_getitem _ _)))
  show wpAny _ _ (Builtin.Tuple.tupleItemsOf (.ref t) >>= _) _ _ s
  refine wpAny_bind (tupleItemsOf_ ht ?_)
  refine wpAny_bind (wpAny_typeOf hTs ?_)
  rw [if_pos (by decide)]
  refine wpAny_bind (sliceApplied_upto hs (Nat.le_of_lt hb) ?_)
  have hno : ¬ (((0 : Int) == 0 && (1 : Int) == 1 && b == items.size) = true) := by
    have : (b == items.size) = false := by rw [beq_eq_false_iff_ne]; omega
    rw [this]; simp
  show wpAny _ _ (if ((0 : Int) == 0 && (1 : Int) == 1 && b == items.size) = true then _ else _) _ _ s
  rw [if_neg hno, pick_upto items b]
  first
    | exact wpAny_bind (m := Builtin.Tuple.tupleExact _) (wpAny_newObj_type (wpAny_pure ⟨_, rfl, wpAny_pure h⟩) hdrop)
    | exact wpAny_bind (m := Builtin.Tuple.tupleExact _) (wpAny_newObj_type (wpAny_bind (wpAny_pure (wpAny_pure ⟨_, rfl, wpAny_pure h⟩))) hdrop)
    | exact wpAny_bind (wpAny_bind (m := Builtin.Tuple.tupleExact _) (wpAny_newObj_type (wpAny_pure (wpAny_pure ⟨_, rfl, wpAny_pure h⟩)) hdrop))
    | exact wpAny_bind (wpAny_bind (m := Builtin.Tuple.tupleExact _) (wpAny_newObj_type (wpAny_pure ⟨_, rfl, wpAny_pure h⟩) hdrop))
end
section
variable {prog : Program} {w : World} {A : Around} {E : Value → Shared → Prop} {s : Shared} {h₀ : Heap} {L : Addr} {m : Str → Option Value} {news : List (Addr × Obj)} {K : Frag}
theorem slice_tuple_upto {value slice : Expr} {t : Addr} {l : List Value} {v : Int} {u : Tok} {n : Nat} {dd : Option Addr} {sl : Array (Option Value)} {Q : Value → Shared → Prop} (X₀ : K.In h₀) (hl : K.lookup t = some ⟨.type "tuple", dd, .seq l.toArray n, sl⟩)
    (F : Fr h₀ L s.heap m) (N : News h₀ L s.heap news) (hlen : l.length = 4) (h0 : 0 ≤ v) (h1 : v < 4)
    (h : ∀ D h', Fr h₀ L h' m → News h₀ L h' ((D, tup (l.take v.toNat) 0) :: news) → (∀ p ∈ news, p.1 < D) → Q (.ref D) { s with heap := h' })
    (hs : subscripted slice false (.ref t) (.ref s.heap.objs.size) = operate [.ref s.heap.objs.size, .ref t] (getItem (.ref t) (.ref s.heap.objs.size)) := by with_unfolding_all rfl)
    (hg : ∀ r, letTemporaryGo value (.ref t) r = pure () := by intro _; with_unfolding_all rfl) :
    wpAny (model prog w) A (subscriptTail value slice (.ref t) (.ref s.heap.objs.size)) Q E { s with heap := s.heap.push { cls := .type "slice", data := .fields #[.none, .int v u, .none] } } := by
  obtain ⟨b, rfl⟩ := Int.eq_ofNat_of_zero_le h0
  have ht : IsTup s.heap t l.toArray := tupK (X₀.keeps F.keep) hl
  have ht' : IsTup (s.heap.push { cls := .type "slice", data := .fields #[.none, .int b u, .none] }) t l.toArray := ht.keeps fun _ _ e => Heap.get?_push_of_some _ e
  refine subscriptTail_ops (s := { s with heap := s.heap.push { cls := .type "slice", data := .fields #[.none, .int b u, .none] } }) ht'.typeIs slot_tuple_getitem.lookup
    (getItem_tuple_upto ht' (Heap.IsSliceOf.new ..) (by simp [hlen]; omega) ?_ (by rw [List.size_toArray, hlen, sizeLine_eq]; omega)) hs hg
  have N1 := News.push (F.push { cls := .type "slice", data := .fields #[.none, .int b u, .none] }) (N.grown fun _ _ e => Heap.get?_push_of_some _ e) { cls := .type "tuple", data := .seq (l.toArray.toList.take b).toArray }
  exact h _ _ ((F.push _).push _) N1 (fun p hp => by
    show p.1 < (s.heap.push _).objs.size
    rw [Heap.size_push]
    exact Nat.lt_succ_of_lt (Heap.lt_size (N p hp).1))
end

theorem names_reads {h : Heap} : ∀ {l : List Value}, l.all isName = true → ∃ ds as, ReadsAll h l ds as ∧ PyData.canLayAll0 ds = true ∧ PyData.depthAll ds ≤ 1
  | [], _ => ⟨[], _, .nil, rfl, by simp [PyData.depthAll]⟩
  | v :: r, hl => by
    rw [List.all_cons, Bool.and_eq_true] at hl
    obtain ⟨ds, as, ra, c, d⟩ := names_reads (h := h) hl.2
    obtain ⟨x, t, rfl, hx, _⟩ := isName_of hl.1
    exact ⟨.str x :: ds, _, .cons (Reads.str x t) ra, by simp [PyData.canLayAll0, PyData.canLay0, hx, c], by simp [PyData.depthAll, PyData.depth]; omega⟩
theorem names_data : ∀ {l : List Value}, l.all isName = true → ∃ ds, PyData.canLayAll0 ds = true ∧ PyData.depthAll ds ≤ 1 ∧ ∀ h : Heap, ∃ as, ReadsAll h l ds as
  | [], _ => ⟨[], rfl, by simp [PyData.depthAll], fun _ => ⟨_, .nil⟩⟩
  | v :: r, hl => by
    rw [List.all_cons, Bool.and_eq_true] at hl
    obtain ⟨ds, c, d, f⟩ := names_data hl.2
    obtain ⟨x, t, rfl, hx, _⟩ := isName_of hl.1
    exact ⟨.str x :: ds, by simp [PyData.canLayAll0, PyData.canLay0, hx, c], by simp [PyData.depthAll, PyData.depth]; omega, fun h => let ⟨as, ra⟩ := f h; ⟨_, .cons (Reads.str x t) ra⟩⟩
theorem BodyOk.names {led : Led} {D : Addr} {l : List Value} {n : Nat} (hD : (D, tup l n) ∈ led) (hl : l.all isName = true) : BodyOk led (.ref D) := by
  obtain ⟨ds, c, d, f⟩ := names_data hl
  refine ⟨⟨_, rfl⟩, .tuple ds, by simpa [PyData.canLay0] using c, by simp [PyData.depth]; omega, fun h₀ h L N => ?_⟩
  obtain ⟨as, ra⟩ := f h
  exact ⟨_, reads_tuple_at (News.get N hD) rfl rfl ra⟩
theorem all_take {l : List Value} (h : l.all isName = true) (n : Nat) : (l.take n).all isName = true := by
  rw [List.all_eq_true] at h ⊢
  exact fun x hx => h x (List.mem_of_mem_take hx)

/-- the paragraphs made so far -/
def ParsB (news : Led) (R : List (Str × Str)) (bs ps : List Value) : Prop :=
  ∀ k : Nat, k < ps.length → ∃ x b, ps[k]? = some (.ref x) ∧ bs[k]? = some b ∧ ParAt news x (nm R k) (sec R k) b
theorem ParAt.mono {news news' : Led} {x : Addr} {a b : Str} {body : Value} (h : ParAt news x a b body) (hs : ∀ p ∈ news, p ∈ news') : ParAt news' x a b body :=
  let ⟨dx, c1, c2, c3, k1, k2, k3, ta, tb, n, p, q⟩ := h; ⟨dx, c1, c2, c3, k1, k2, k3, ta, tb, n, hs _ p, hs _ q⟩
theorem ParsB.mono {news news' : Led} {R : List (Str × Str)} {bs ps : List Value} (h : ParsB news R bs ps) (hs : ∀ p ∈ news, p ∈ news') : ParsB news' R bs ps :=
  fun k hk => let ⟨x, b, h1, h2, h3⟩ := h k hk; ⟨x, b, h1, h2, h3.mono hs⟩
theorem ParsB.snoc {news : Led} {R : List (Str × Str)} {bs ps : List Value} {x : Addr} {b : Value} {i : Nat} (h : ParsB news R bs ps) (hi : ps.length = i) (hb : bs[i]? = some b) (hx : ParAt news x (nm R i) (sec R i) b) : ParsB news R bs (ps ++ [.ref x]) := by
  intro k hk
  rw [List.length_append, List.length_singleton] at hk
  by_cases hlt : k < ps.length
  · obtain ⟨x', b', h1, h2, h3⟩ := h k hlt
    exact ⟨x', b', by rw [List.getElem?_append_left hlt]; exact h1, h2, h3⟩
  · have e : k = ps.length := by omega
    refine ⟨x, b, by rw [e]; simp, by rw [e, hi]; exact hb, by rw [e, hi]; exact hx⟩
theorem ParsB.pars {news : Led} {R : List (Str × Str)} {bs ps : List Value} (h : ParsB news R bs ps) (hl : ps.length = R.length) : Pars news ps R := by
  refine ⟨hl, fun k h0 h1 => ?_⟩
  obtain ⟨n, rfl⟩ := Int.eq_ofNat_of_zero_le h0
  obtain ⟨x, b, h2, _, h3⟩ := h n (by omega)
  exact ⟨x, b, by simpa using h2, h3⟩
def JPar (base : Led) (R : List (Str × Str)) (bs : List Value) (i : Nat) (ps : List Value) (nx : Led) : Prop := ∃ e, nx = e ++ base ∧ Above e base ∧ ps.length = i ∧ ParsB nx R bs ps
theorem JPar.zero {base : Led} {R : List (Str × Str)} {bs : List Value} : JPar base R bs 0 [] base := ⟨[], rfl, (fun p hp => by simp at hp), rfl, fun k hk => by simp at hk⟩
section
variable {prog : Program} {w : World} {A : Around} {E : Value → Shared → Prop} {s : Shared} {h₀ : Heap} {L : Addr} {news : Led}
theorem sub_body {value slice : Expr} {l : Addr} {bs : List Value} {n i N : Nat} {k : Int} {u : Tok} {Q : Value → Shared → Prop} (Nw : News h₀ L s.heap news) (hm : (l, listOf bs.toArray n) ∈ news) (hl : bs.length = N) (hk : k = i) (hi : i < N) (hN : N ≤ 1000)
    (h : ∀ b, bs[i]? = some b → Q b s)
    (hs : subscripted slice false (.ref l) (.int k u) = operate [.ref l, .int k u] (getItem (.ref l) (.int k u)) := by with_unfolding_all rfl) :
    wpAny (model prog w) A (subscriptTail value slice (.ref l) (.int k u)) Q E s := by
  subst hk
  have hb : bs[i]? = some (bs[i]'(by omega)) := List.getElem?_eq_getElem _
  exact tail_any (News.isList Nw hm).typeIs slot_list_getitem.lookup (wpAny_getItem_list (News.isList Nw hm) (by omega) (by omega) (by simpa using hb) (h _ hb)) hs
end
theorem using_mk {h₀ h : Heap} {L Du : Addr} {l : List Value} {x : Addr × Obj} {led : Led} {k : Nat} (N : News h₀ L h ((Du, tup (l.take k) 0) :: x :: led)) (hl : l.all isName = true) : ∃ led2, News h₀ L h led2 ∧ (∀ p ∈ led, p ∈ led2) ∧ BodyOk led2 (.ref Du) :=
  ⟨_, N, fun p hp => .tail _ (.tail _ hp), BodyOk.names (.head _) (all_take hl k)⟩
end Mine
end
section
namespace Mine
local macro_rules | `(tactic| k_all) => `(tactic| assumption)
local macro_rules | `(tactic| k_mem) => `(tactic| assumption)
set_option maxHeartbeats 1000000 in
theorem par_ok (prog : Program) (w : World) (a b : Str) (ta tb : Tok) (body : Value) (news : Led) :
    Calls prog w 79 3 [.str a ta, .str b tb, body] news (fun r news' => ∃ x dx c1 c2 c3 k1 k2 k3 n, r = .ref x ∧
      news' = (x, instObj 79 dx) :: (dx, dictOf [⟨c1, .str "name" k1, .str a ta⟩, ⟨c2, .str "section" k2, .str b tb⟩, ⟨c3, .str "statements" k3, body⟩] n) :: news ∧ (∀ p ∈ news, p.1 < dx) ∧ dx < x) := by
  intro pr loose mean mg mb dp un gd cn cs af ccd cl outer A₀ base h₀ L m s Q E B F X N T hk hd hu hret
  k_dflt (refine' call_cls F X N ?hm ?hi ?hf ?_; (case hm => k_is); (case hi => k_is); (case hf => k_is))
  intro x dx h1 F1 N1 l1 l2
  k_dflt (refine' code_def ?k1 ?k2 ?k3 ?k4 ?k5 ?kA ?kF ?kK ?k6 ?k7 ?k8 ?k9 ?kB ?_ ?c2 ?c3 ?c4 ?c5; (case kA => exact rfl); (case kF => exact rfl); (case kK => assumption); (case k1 => k_asm); (case k2 => k_asm); (case k3 => k_asm); (case k4 => k_asm); (case k5 => k_asm); (case k6 => k_is); (case k7 => k_is); (case k8 => ktr_room); (case k9 => exact BindsTo.of_eq rfl); (case c5 => decide); (case kB => exact locs rfl); (case c2 => exact rfl); (case c3 => exact rfl); (case c4 => exact rfl); k_whole; intro g' L' h' FG' F' N' B' X' T'; (try dsimp only); (try k_fold))
  have hne : ∀ p ∈ news, p.1 ≠ dx := fun p hp => Nat.ne_of_lt (l1 p hp)
  have hxd : x ≠ dx := Nat.ne_of_gt l2
  k_steps
  exact hret _ _ _ _ (by k_asm) (by k_asm) ⟨x, dx, _, _, _, _, _, _, _, rfl, rfl, l1, l2⟩
set_option maxHeartbeats 1000000 in
theorem proc_ok (prog : Program) (w : World) (lr : Addr) (u : Value) (news : Led) :
    Calls prog w 119 3 [.ref lr, u] news (fun r news' => ∃ x dx c1 c2 k1 k2 n, r = .ref x ∧
      news' = (x, instObj 119 dx) :: (dx, dictOf [⟨c1, .str "rows" k1, .ref lr⟩, ⟨c2, .str "using" k2, u⟩] n) :: news ∧ (∀ p ∈ news, p.1 < dx) ∧ dx < x) := by
  intro pr loose mean mg mb dp un gd cn cs af ccd cl outer A₀ base h₀ L m s Q E B F X N T hk hd hu hret
  k_dflt (refine' call_cls F X N ?hm ?hi ?hf ?_; (case hm => k_is); (case hi => k_is); (case hf => k_is))
  intro x dx h1 F1 N1 l1 l2
  k_dflt (refine' code_def ?k1 ?k2 ?k3 ?k4 ?k5 ?kA ?kF ?kK ?k6 ?k7 ?k8 ?k9 ?kB ?_ ?c2 ?c3 ?c4 ?c5; (case kA => exact rfl); (case kF => exact rfl); (case kK => assumption); (case k1 => k_asm); (case k2 => k_asm); (case k3 => k_asm); (case k4 => k_asm); (case k5 => k_asm); (case k6 => k_is); (case k7 => k_is); (case k8 => ktr_room); (case k9 => exact BindsTo.of_eq rfl); (case c5 => decide); (case kB => exact locs rfl); (case c2 => exact rfl); (case c3 => exact rfl); (case c4 => exact rfl); k_whole; intro g' L' h' FG' F' N' B' X' T'; (try dsimp only); (try k_fold))
  have hne : ∀ p ∈ news, p.1 ≠ dx := fun p hp => Nat.ne_of_lt (l1 p hp)
  have hxd : x ≠ dx := Nat.ne_of_gt l2
  k_steps
  exact hret _ _ _ _ (by k_asm) (by k_asm) ⟨x, dx, _, _, _, _, _, rfl, rfl, l1, l2⟩
local macro_rules | `(tactic| walk_at "newTuple") => `(tactic| (k_here; k_dflt (refine' kup_newTuple ?F ?N ?_ ?z; (case F => k_asm); (case N => k_asm); (case z => size_fits)); intro D' h' F' N' l1; (try k_sweep)))
set_option maxHeartbeats 1000000 in
theorem ptold_ok (prog : Program) (w : World) (x bt : Addr) (a b : Str) (news : Led) (hP : ParAt news x a b (.ref bt)) :
    Calls prog w 76 2 [.ref x] news (fun r news' => ∃ D ta tb, r = .ref D ∧ news' = (D, tup [.str a ta, .str b tb, .ref bt] 0) :: news ∧ (∀ p ∈ news, p.1 < D)) := by
  intro pr loose mean mg mb dp un gd cn cs af ccd cl outer A₀ base h₀ L m s Q E B F X N T hk hd hu hret
  obtain ⟨dx, c1, c2, c3, k1, k2, k3, ta, tb, n, p1, p2⟩ := hP
  refine wpAny_call ?_
  k_dflt ktr_enter
  k_steps
  exact hret _ _ _ _ (by k_asm) (by k_asm) ⟨_, ta, tb, rfl, rfl, by assumption⟩

theorem par_end {h₀ h' : Heap} {L : Addr} {m : Str → Option Value} {s₁ : Shared} {I C D x dx : Addr} {oI oC oD : Obj} {tk n i : Nat} {e base : Led} {R : List (Str × Str)} {bs ps : List Value} {b : Value} {c1 c2 c3 : Int} {k1 k2 k3 ta tb : Tok} (F : Fr h₀ L h' m)
    (N : News h₀ L h' ((x, instObj 79 dx) :: (dx, dictOf [⟨c1, .str "name" k1, .str (nm R (0 + i)) ta⟩, ⟨c2, .str "section" k2, .str (sec R (0 + i)) tb⟩, ⟨c3, .str "statements" k3, b⟩] n) :: (I, oI) :: (C, oC) :: (D, oD) :: (e ++ base)))
    (l1 : ∀ p ∈ (I, oI) :: (C, oC) :: (D, oD) :: (e ++ base), p.1 < dx) (l2 : dx < x) (off : LCg.Off3 I C D (e ++ base)) (hab : Above e base) (hpl : ps.length = i) (hps : ParsB (e ++ base) R bs ps) (hb : bs[i]? = some b) :
    Cut (LCg.CompEnd h₀ L m s₁ I oI C oC D oD (fun _ => True) (fun y nx' => JPar base R bs (i + 1) (ps ++ [y]) nx') (.ref x) { s₁ with heap := h', toks := tk }) := by
  rw [Int.zero_add] at N
  have N' : News h₀ L h' ([(x, instObj 79 dx), (dx, dictOf [⟨c1, .str "name" k1, .str (nm R i) ta⟩, ⟨c2, .str "section" k2, .str (sec R i) tb⟩, ⟨c3, .str "statements" k3, b⟩] n)] ++ (I, oI) :: (C, oC) :: (D, oD) :: (e ++ base)) := N
  have l3 : ∀ p ∈ (I, oI) :: (C, oC) :: (D, oD) :: (e ++ base), p.1 < x := fun p hp => Nat.lt_trans (l1 p hp) l2
  refine compEnd_ext F N' (fun p hp => ?_) off ⟨[(x, instObj 79 dx), (dx, dictOf [⟨c1, .str "name" k1, .str (nm R i) ta⟩, ⟨c2, .str "section" k2, .str (sec R i) tb⟩, ⟨c3, .str "statements" k3, b⟩] n)] ++ e, by simp, fun p hp q hq => ?_, by simp [hpl], ?_⟩
  · simp only [List.mem_cons, List.not_mem_nil, or_false] at hp
    rcases hp with rfl | rfl
    · exact ⟨l3 (I, oI) (by simp), l3 (C, oC) (by simp), l3 (D, oD) (by simp)⟩
    · exact ⟨l1 (I, oI) (by simp), l1 (C, oC) (by simp), l1 (D, oD) (by simp)⟩
  · rcases List.mem_append.mp hp with h | h
    · simp only [List.mem_cons, List.not_mem_nil, or_false] at h
      rcases h with rfl | rfl
      · exact l3 q (by simp [hq])
      · exact l1 q (by simp [hq])
    · exact hab p h q hq
  · exact (hps.mono fun p hp => List.mem_append_right _ hp).snoc hpl hb ⟨dx, c1, c2, c3, k1, k2, k3, ta, tb, n, by simp, by simp⟩
end Mine
end
section
namespace Mine
local macro_rules | `(tactic| k_all) => `(tactic| assumption)
local macro_rules | `(tactic| k_mem) => `(tactic| assumption)
local macro_rules | `(tactic| walk_at "newTuple") => `(tactic| (k_here; k_dflt (refine' kup_newTuple ?F ?N ?_ ?z; (case F => k_asm); (case N => k_asm); (case z => size_fits)); intro D' h' F' N' l1; (try k_sweep)))
local macro_rules | `(tactic| walk_at "told_steps") => `(tactic| repeat' (
  fail_if_success (with_reducible show wpAny _ _ (eval (PySem.Expr.ListComp _ _ _ _) _) _ _ _);
  fail_if_success (with_reducible show LCg.CompSrc _ _ _ _ _ _ _ _ _ _ _ _ _ _);
  fail_if_success (with_reducible show wpAny _ _ (call (Value.ref 76) _) _ _ _);
  fail_if_success (with_reducible show wpAny _ _ (call (Value.type "tuple") _) _ _ _);
  first | (k_unfold; (try dsimp only)) | (k_end; wrow_close) | walk1 | (dsimp only; walk1) | (leave1; walk_say "STEP leave1"; try dsimp only) | fail "no step"))
/-- what told gives of the rows -/
def TolB (news : Led) (R : List (Str × Str)) (bs ts : List Value) : Prop :=
  ∀ k : Nat, k < ts.length → ∃ d ta tb b n, ts[k]? = some (.ref d) ∧ bs[k]? = some b ∧ (d, tup [.str (nm R k) ta, .str (sec R k) tb, b] n) ∈ news
theorem TolB.mono {news news' : Led} {R : List (Str × Str)} {bs ts : List Value} (h : TolB news R bs ts) (hs : ∀ p ∈ news, p ∈ news') : TolB news' R bs ts :=
  fun k hk => let ⟨d, ta, tb, b, n, h1, h2, h3⟩ := h k hk; ⟨d, ta, tb, b, n, h1, h2, hs _ h3⟩
theorem TolB.snoc {news : Led} {R : List (Str × Str)} {bs ts : List Value} {d : Addr} {b : Value} {i n : Nat} {ta tb : Tok} (h : TolB news R bs ts) (hi : ts.length = i) (hb : bs[i]? = some b) (hd : (d, tup [.str (nm R i) ta, .str (sec R i) tb, b] n) ∈ news) : TolB news R bs (ts ++ [.ref d]) := by
  intro k hk
  rw [List.length_append, List.length_singleton] at hk
  by_cases hlt : k < ts.length
  · obtain ⟨d', ta', tb', b', n', h1, h2, h3⟩ := h k hlt
    exact ⟨d', ta', tb', b', n', by rw [List.getElem?_append_left hlt]; exact h1, h2, h3⟩
  · have e : k = ts.length := by omega
    refine ⟨d, ta, tb, b, n, by rw [e]; simp, by rw [e, hi]; exact hb, by rw [e, hi]; exact hd⟩
def JTol (base : Led) (R : List (Str × Str)) (bs : List Value) (i : Nat) (ts : List Value) (nx : Led) : Prop := ∃ e, nx = e ++ base ∧ Above e base ∧ ts.length = i ∧ TolB nx R bs ts
theorem JTol.zero {base : Led} {R : List (Str × Str)} {bs : List Value} : JTol base R bs 0 [] base := ⟨[], rfl, (fun p hp => by simp at hp), rfl, fun k hk => by simp at hk⟩
theorem tol_end {h₀ h' : Heap} {L : Addr} {m : Str → Option Value} {s₁ : Shared} {I C D d : Addr} {oI oC oD : Obj} {tk n i : Nat} {e base : Led} {R : List (Str × Str)} {bs ts : List Value} {b : Value} {ta tb : Tok} {S : Led → Prop} (F : Fr h₀ L h' m)
    (N : News h₀ L h' ((d, tup [.str (nm R i) ta, .str (sec R i) tb, b] n) :: (I, oI) :: (C, oC) :: (D, oD) :: (e ++ base)))
    (l1 : ∀ p ∈ (I, oI) :: (C, oC) :: (D, oD) :: (e ++ base), p.1 < d) (off : LCg.Off3 I C D (e ++ base)) (hab : Above e base) (hpl : ts.length = i) (hps : TolB (e ++ base) R bs ts) (hb : bs[i]? = some b) (hS : ∀ e', S (e' ++ base)) :
    Cut (LCg.CompEnd h₀ L m s₁ I oI C oC D oD S (fun y nx' => JTol base R bs (i + 1) (ts ++ [y]) nx') (.ref d) { s₁ with heap := h', toks := tk }) := by
  refine Cut.intro ⟨h', tk, (d, tup [.str (nm R i) ta, .str (sec R i) tb, b] n) :: (e ++ base), rfl, F, News.sub N fun p hp => ?_, LCg.Off3.of fun p hp => ?_, ?_, (d, tup [.str (nm R i) ta, .str (sec R i) tb, b] n) :: e, rfl, fun p hp q hq => ?_, by simp [hpl], ?_⟩
  · simp only [List.mem_cons] at hp ⊢
    rcases hp with h | h | h | h | h <;> simp [h]
  · rcases List.mem_cons.mp hp with rfl | h
    · exact ⟨Nat.ne_of_gt (l1 (I, oI) (by simp)), Nat.ne_of_gt (l1 (C, oC) (by simp)), Nat.ne_of_gt (l1 (D, oD) (by simp))⟩
    · exact off.mem p h
  · exact hS ((d, tup [.str (nm R i) ta, .str (sec R i) tb, b] n) :: e)
  · rcases List.mem_cons.mp hp with rfl | h
    · exact l1 q (by simp [hq])
    · exact hab p h q hq
  · exact (hps.mono fun p hp => List.mem_cons_of_mem _ hp).snoc hpl hb (.head _)
set_option maxHeartbeats 1000000 in
theorem told_ok (prog : Program) (w : World) (p lr ut : Addr) (ps bs : List Value) (nl : Nat) (R : List (Str × Str)) (news : Led)
    (hP : ProcAt news p lr (.ref ut)) (hl : (lr, listOf ps.toArray nl) ∈ news) (hps : ParsB news R bs ps) (hpl : ps.length = R.length) (hR : R.length ≤ 1000) (hbs : ∀ y ∈ bs, ∃ t, y = .ref t) :
    Calls prog w 102 10 [.ref p] news (fun r news' => ∃ q T ts, r = .ref q ∧ (∀ x ∈ news, x ∈ news') ∧ (q, tup [.ref T, .ref ut] 0) ∈ news' ∧ (T, tup ts 0) ∈ news' ∧ ts.length = R.length ∧ TolB news' R bs ts) := by
  intro pr loose mean mg mb dp un gd cn cs af ccd cl outer A₀ base h₀ L m s Q E B F X N T hk hd hu hret
  obtain ⟨dp', c1, c2, k1, k2, n', hp1, hp2⟩ := id hP
  refine wpAny_call ?_
  k_dflt ktr_enter
  rename_i g1 L1 hh1 FG1 Fa Na B1 X1 T1
  walk_at "told_steps"
  rename Fr _ _ _ _ => F1
  rename News _ _ _ _ => N1
  k_dflt (refine LCg.ListComp_U (F₀ := F1) (by with_unfolding_all rfl) (by decide) (by rfl) (by decide) (by rfl) ?_)
  walk_at "told_steps"
  refine LCg.CompSrc.ledger rfl F1 N1 hl (by rw [List.size_toArray, hpl, sizeLine_eq]; omega) ?_
  intro g2
  refine comp_rest (JTol news R bs) ?_ JTol.zero ?_
  · rintro i v I oI C oC D m₂ ts nx h tk E' hi hv hC hx F2 N2 off ne ⟨e, rfl, hab, htl, hts⟩
    rw [List.size_toArray] at hi
    obtain ⟨x, b, h1, h2, h3⟩ := hps i hi
    have hv2 : v = .ref x := by
      have : ps[i]? = some v := by simpa using hv
      rw [h1] at this
      exact (Option.some.inj this).symm
    subst hv2
    obtain ⟨bt, rfl⟩ := hbs b (List.mem_of_getElem? h2)
    have q2 : ∀ p ∈ news, p ∈ (I, oI) :: (C, oC) :: (D, LCg.lst ts) :: (e ++ news) := fun p hp => by simp [hp]
    have h4 := h3.mono q2
    obtain ⟨dx, c1, c2, c3, k1, k2, k3, ta, tb, n, p1, p2⟩ := id h4
    have pC : (C, oC) ∈ (I, oI) :: (C, oC) :: (D, LCg.lst ts) :: (e ++ news) := by simp
    walk_at "told_steps"
    refine' Calls.use (ptold_ok _ _ _ _ _ _ _ h4) ?vB ?vF ?vX ?vN ?vT ?vk ?vd ?vu ?_
    case vN => exact N2
    case vB => exact B1
    case vF => exact F2
    case vX => k_asm
    case vT => k_asm
    case vk => exact rfl
    case vd => ktr_room
    case vu => ktr_units
    rintro r h5 tk5 news5 F5 N5 ⟨d, t1, t2, rfl, rfl, l1⟩
    exact tol_end F5 N5 l1 off hab htl hts h2 (fun e' => .inr ⟨_, List.mem_append_right _ hl, rfl, _, rfl⟩)
  · rintro ts nx ⟨e, rfl, hab, htl, hts⟩
    intro D h tk F2 N2 off
    have htl2 : ts.length = R.length := by rw [htl, List.size_toArray, hpl]
    walk_at "told_steps"
    refine kde_tupleOf (zs := ts) F2 N2 (News.isList N2 (items := ts.toArray) (.head _)) (by rw [List.size_toArray]; omega) rfl ?_
    intro T h3 F3 N3 l3
    have hp1' : (p, instObj 119 dp') ∈ (T, ({ cls := .type "tuple", data := .seq ts.toArray } : Obj)) :: (D, LCg.lst ts) :: (e ++ news) := by simp [hp1]
    have hp2' : (dp', _) ∈ (T, ({ cls := .type "tuple", data := .seq ts.toArray } : Obj)) :: (D, LCg.lst ts) :: (e ++ news) := List.mem_cons_of_mem _ (List.mem_cons_of_mem _ (List.mem_append_right _ hp2))
    walk_at "told_steps"
    refine hret _ _ _ _ (by k_asm) (by k_asm) ⟨_, T, ts, rfl, fun x hx => ?_, .head _, .tail _ (.head _), htl2, hts.mono fun x hx => ?_⟩
    · simp [hx]
    · simp only [List.mem_cons]; exact .inr (.inr (.inr hx))

theorem tol_end2 {h₀ h' : Heap} {L : Addr} {m : Str → Option Value} {s₁ : Shared} {I C D d d2 : Addr} {oI oC oD o2 : Obj} {tk n i : Nat} {e base : Led} {R : List (Str × Str)} {bs ts : List Value} {b : Value} {ta tb : Tok} {S : Led → Prop} (F : Fr h₀ L h' m)
    (N : News h₀ L h' ((d, tup [.str (nm R (0 + i)) ta, .str (sec R (0 + i)) tb, b] n) :: (d2, o2) :: (I, oI) :: (C, oC) :: (D, oD) :: (e ++ base)))
    (l1 : ∀ p ∈ (d2, o2) :: (I, oI) :: (C, oC) :: (D, oD) :: (e ++ base), p.1 < d) (off : LCg.Off3 I C D (e ++ base)) (hab : Above e base) (hpl : ts.length = i) (hps : TolB (e ++ base) R bs ts) (hb : bs[i]? = some b) (hS : ∀ e', S (e' ++ base)) :
    Cut (LCg.CompEnd h₀ L m s₁ I oI C oC D oD S (fun y nx' => JTol base R bs (i + 1) (ts ++ [y]) nx') (.ref d) { s₁ with heap := h', toks := tk }) := by
  rw [Int.zero_add] at N
  refine tol_end (ta := ta) (tb := tb) (n := n) F (News.sub N fun p hp => ?_) (fun p hp => l1 p (.tail _ hp)) off hab hpl hps hb hS
  rcases List.mem_cons.mp hp with h | h
  · rw [h]; exact .head _
  · exact .tail _ (.tail _ h)
end Mine
end
section
namespace Mine
theorem canLayAll_of : ∀ {l : List PyData}, (∀ d ∈ l, PyData.canLay0 d = true) → PyData.canLayAll0 l = true
  | [], _ => rfl
  | d :: r, h => by simp [PyData.canLayAll0, h d (.head _), canLayAll_of (fun x hx => h x (.tail _ hx))]
theorem depthAll_of {n : Nat} : ∀ {l : List PyData}, (∀ d ∈ l, PyData.depth d ≤ n) → PyData.depthAll l ≤ n
  | [], _ => by simp [PyData.depthAll]
  | d :: r, h => by
    have a := h d (.head _)
    have b := depthAll_of (l := r) (n := n) (fun x hx => h x (.tail _ hx))
    simp [PyData.depthAll]
    omega
theorem readsAll_of {h : Heap} : ∀ {ts : List Value} {f : Nat → PyData}, (∀ k, k < ts.length → ∃ v, ts[k]? = some v ∧ ∃ adr, Reads h v (f k) adr) → ∃ as, ReadsAll h ts ((List.range ts.length).map f) as
  | [], _, _ => ⟨_, .nil⟩
  | t :: r, f, H => by
    obtain ⟨v, hv, adr, ra⟩ := H 0 (by simp)
    have e : t = v := by simpa using hv
    subst e
    obtain ⟨as, rs⟩ := readsAll_of (ts := r) (f := fun k => f (k + 1)) (fun k hk => by
      obtain ⟨v, hv, x⟩ := H (k + 1) (by simp; omega)
      exact ⟨v, by simpa using hv, x⟩)
    rw [List.length_cons, List.range_succ_eq_map, List.map_cons, List.map_map]
    exact ⟨_, .cons ra rs⟩
theorem bodies_data {led : Led} : ∀ {bs : List Value}, (∀ y ∈ bs, BodyOk led y) → ∃ ds : List PyData, ds.length = bs.length ∧ (∀ d ∈ ds, PyData.canLay0 d = true) ∧ (∀ d ∈ ds, PyData.depth d ≤ 10) ∧
    ∀ (h₀ h : Heap) (L : Addr), News h₀ L h led → ∀ (k : Nat) (b : Value), bs[k]? = some b → ∃ d, ds[k]? = some d ∧ ∃ adr, Reads h b d adr
  | [], _ => ⟨[], rfl, by simp, by simp, fun _ _ _ _ k b hb => by simp at hb⟩
  | y :: r, H => by
    obtain ⟨ds, h1, h2, h3, h4⟩ := bodies_data (bs := r) (fun z hz => H z (.tail _ hz))
    obtain ⟨_, d, a, b, c⟩ := H y (.head _)
    refine ⟨d :: ds, by simp [h1], fun x hx => ?_, fun x hx => ?_, fun h₀ h L N k b hb => ?_⟩
    · rcases List.mem_cons.mp hx with rfl | hx
      · exact a
      · exact h2 x hx
    · rcases List.mem_cons.mp hx with rfl | hx
      · exact b
      · exact h3 x hx
    · cases k with
      | zero =>
        have e : y = b := by simpa using hb
        subst e
        exact ⟨d, rfl, c h₀ h L N⟩
      | succ k => exact h4 h₀ h L N k b (by simpa using hb)
def rowD (R : List (Str × Str)) (ds : List PyData) (k : Nat) : PyData := .tuple [.str (nm R k), .str (sec R k), ds.getD k .none]
section
variable {prog : Program} {w : World} {A : Around} {E : Value → Shared → Prop} {s : Shared} {h₀ : Heap} {L : Addr} {led : Led}
theorem ne_told {q q2 T T2 Du : Addr} {n1 n2 n3 n4 : Nat} {ts ts2 bs : List Value} {R : List (Str × Str)} {Q : Value → Shared → Prop} (N : News h₀ L s.heap led)
    (hq : (q, tup [.ref T, .ref Du] n1) ∈ led) (hT : (T, tup ts n2) ∈ led) (hts : TolB led R bs ts) (hl : ts.length = R.length)
    (hq2 : (q2, tup [.ref T2, .ref Du] n3) ∈ led) (hT2 : (T2, tup ts2 n4) ∈ led) (hts2 : TolB led R bs ts2) (hl2 : ts2.length = R.length)
    (hok : RowsOk R) (hbl : bs.length = R.length) (hys : ∀ y ∈ bs, BodyOk led y) (hU : BodyOk led (.ref Du)) (hu : A.units + 64 < cLine) (h : Q (.bool false) s) :
    wpAny (model prog w) A (compareOp .NotEq (.ref q) (.ref q2)) Q E s := by
  obtain ⟨ds, d1, d2, d3, d4⟩ := bodies_data hys
  obtain ⟨_, ud, u1, u2, u3⟩ := hU
  have rd : ∀ {ts : List Value}, TolB led R bs ts → ts.length = R.length → ∃ as, ReadsAll s.heap ts ((List.range R.length).map (rowD R ds)) as := by
    intro ts ht htl
    rw [← htl]
    refine readsAll_of fun k hk => ?_
    obtain ⟨d, ta, tb, b, n, e1, e2, e3⟩ := ht k hk
    obtain ⟨dd, f1, adr, f2⟩ := d4 _ _ _ N k b e2
    have f3 : Reads s.heap b (ds.getD k .none) adr := by
      rw [List.getD, f1]
      exact f2
    exact ⟨_, e1, _, reads_tuple_at (News.get N e3) rfl rfl (ReadsAll.cons (Reads.str _ ta) (ReadsAll.cons (Reads.str _ tb) (ReadsAll.cons f3 ReadsAll.nil)))⟩
  obtain ⟨as, ra⟩ := rd hts hl
  obtain ⟨bs', rb⟩ := rd hts2 hl2
  obtain ⟨au, ru⟩ := u3 _ _ _ N
  have hsh : SeqAt.shaped (.tuple [.tuple ((List.range R.length).map (rowD R ds)), ud]) = true := by
    have gd : ∀ k, ds.getD k .none = .none ∨ ds.getD k .none ∈ ds := fun k => by
      by_cases hk : k < ds.length
      · right
        rw [List.getD, List.getElem?_eq_getElem hk]
        exact List.getElem_mem hk
      · left
        rw [List.getD, List.getElem?_eq_none (by omega)]; rfl
    have c1 : PyData.canLayAll0 ((List.range R.length).map (rowD R ds)) = true := canLayAll_of fun d hd => by
      obtain ⟨k, _, rfl⟩ := List.mem_map.mp hd
      have z : PyData.canLay0 (ds.getD k .none) = true := by
        rcases gd k with e | e
        · rw [e]; rfl
        · exact d2 _ e
      unfold rowD
      generalize ds.getD k .none = dk at z ⊢
      simp [PyData.canLay0, PyData.canLayAll0, (hok k).1, (hok k).2, z]
    have c2 : PyData.depthAll ((List.range R.length).map (rowD R ds)) ≤ 20 := depthAll_of fun d hd => by
      obtain ⟨k, _, rfl⟩ := List.mem_map.mp hd
      have z : PyData.depth (ds.getD k .none) ≤ 10 := by
        rcases gd k with e | e
        · rw [e]; simp [PyData.depth]
        · exact d3 _ e
      unfold rowD
      generalize ds.getD k .none = dk at z ⊢
      simp [PyData.depth, PyData.depthAll]
      omega
    simp [SeqAt.shaped, PyData.canLay0, PyData.canLayAll0, PyData.depth, PyData.depthAll, c1, u1]
    omega
  refine ne_dataH (reads_tuple_at (News.get N hq) rfl rfl (ReadsAll.cons (reads_tuple_at (News.get N hT) rfl rfl ra) (ReadsAll.cons ru ReadsAll.nil)))
    (reads_tuple_at (News.get N hq2) rfl rfl (ReadsAll.cons (reads_tuple_at (News.get N hT2) rfl rfl rb) (ReadsAll.cons ru ReadsAll.nil))) hsh hsh hu ?_
  rw [SeqAt.eqv_refl _ (SeqAt.canLay_of_shaped hsh)]
  exact h
end
end Mine
end
section
namespace Mine
section
variable {prog : Program} {w : World} {A : Around} {E : Value → Shared → Prop} {s : Shared} {h₀ : Heap} {env : Env} {x : Str} {body : List Stmt} {Q : Flow → Shared → Prop}
set_option maxHeartbeats 3200000 in
theorem loop_tuple {t : Addr} {oT : Obj} {items : Array Value} {m₀ : Str → Option Value} {news : Led} (J : (Str → Option Value) → Led → Prop)
    (hh : A.handled = none) (ht : s.heap.IsTuple t items) (hJ : ∀ m nx, J m nx → (t, oT) ∈ nx) (F : Fr h₀ env.locals s.heap m₀) (N : News h₀ env.locals s.heap news) (hj : J m₀ news)
    (turn : ∀ v m₁ nx h tk I o, v ∈ items.toList → (∀ p ∈ nx, p.1 ≠ I) → J m₁ nx → Fr h₀ env.locals h (fun y => if y = x then some v else m₁ y) → News h₀ env.locals h ((I, o) :: nx) →
      wpAny (model prog w) A (execs body env) (TurnK h₀ env.locals J I o { s with heap := h, toks := tk } Q) E { s with heap := h, toks := tk })
    (done : ∀ m₁ nx h tk, J m₁ nx → Fr h₀ env.locals h m₁ → News h₀ env.locals h nx → Q .next { s with heap := h, toks := tk }) :
    wpAny (model prog w) A (pyIter (.ref t)) (fun it s₂ => LoopAtV prog w A h₀ env x body Q E it s₂) E s := by
  refine wpAny_pyIter_tuple ht ?_
  have hlt : t < s.heap.objs.size := by obtain ⟨_, e, _⟩ := ht; exact Heap.lt_size e
  have W := Walks.tuple (prog := prog) (w := w) (A := A) hh s.heap.objs.size t (Nat.ne_of_lt hlt) items
  have hI0 : h₀.get? s.heap.objs.size = none := next_is_new F
  have htL : t ≠ env.locals := (N _ (hJ _ _ hj)).2.1
  have up : ∀ b o, s.heap.get? b = some o → (s.heap.push { cls := .type "tuple_iterator", data := .fields #[.ref t, .int 0 0] }).get? b = some o := fun b o e => Heap.get?_push_of_some _ e
  refine ⟨s.heap.objs.size, _, _, items.size, _, _, m₀, news, fun _ => J, rfl, W, ?_, ?_, ?_, ⟨⟨_, Heap.get?_push_size _ rfl, rfl, rfl⟩, (let ⟨o, a, b, c⟩ := ht; ⟨o, up _ _ a, b, c⟩)⟩, F.push _, (fun p hp => ⟨Heap.get?_push_of_some _ (N p hp).1, (N p hp).2⟩), hj, ?_, ?_⟩
  · intro hm
    simp only [List.mem_cons, List.not_mem_nil, or_false] at hm
    rcases hm with hm | hm
    · exact absurd F.ns.lt (hm ▸ Nat.lt_irrefl _)
    · exact htL hm.symm
  · intro b hb
    rw [List.mem_singleton.mp hb]
    exact hI0
  · intro p hp hI
    exact absurd (Heap.lt_size (N p hp).1) ((List.mem_singleton.mp hI) ▸ Nat.lt_irrefl _)
  · rintro i v m₁ news₁ s₁ own ⟨hh', tk', rfl⟩ hin hv hJ₁ hoff hown hget hall hst' F₁ N₁
    obtain ⟨o, ho⟩ : ∃ o, hh'.get? s.heap.objs.size = some o := by obtain ⟨o, e, _⟩ := hst'.1; exact ⟨o, e⟩
    have hio : (s.heap.objs.size, o) ∈ own := hall _ (by simp) hI0 o ho
    have hT := N₁ _ (List.mem_append_right own (hJ _ _ hJ₁))
    have hone : ∀ p ∈ own, p = (s.heap.objs.size, o) ∨ p = (t, oT) := fun p hp => by
      have a := hown p hp
      have b := hget p hp
      simp only [List.mem_cons, List.not_mem_nil, or_false] at a
      obtain ⟨p1, p2⟩ := p
      rcases a with rfl | rfl
      · left
        have b' : hh'.get? s.heap.objs.size = some p2 := b
        rw [ho] at b'
        rw [Option.some.inj b']
      · right
        have b' : hh'.get? p1 = some p2 := b
        have c : hh'.get? p1 = some oT := hT.1
        rw [c] at b'
        rw [Option.some.inj b']
    refine wpAny_mono (turn v m₁ news₁ hh' tk' s.heap.objs.size o (by
        rw [← Array.getElem?_toList] at hv
        exact List.mem_of_getElem? hv) (fun p hp e => hoff p hp (List.mem_singleton.mpr e)) hJ₁ F₁ (fun p hp => by
        rcases List.mem_cons.mp hp with rfl | hp
        · exact N₁ _ (List.mem_append_left _ hio)
        · exact N₁ _ (List.mem_append_right _ hp))) (fun f s₂ p => ?_) fun _ _ e => e
    have fin : (∃ h' tk m' nx, s₂ = { { s with heap := hh', toks := tk' } with heap := h', toks := tk } ∧ Fr h₀ env.locals h' m' ∧ News h₀ env.locals h' ((s.heap.objs.size, o) :: nx) ∧ (∀ p ∈ nx, p.1 ≠ s.heap.objs.size) ∧ J m' nx) →
        LoopStepU h₀ env.locals [s.heap.objs.size] own J { s with heap := hh', toks := tk' } .next s₂ := by
      rintro ⟨h', tk, m', nx, e, F', N', hn, hm⟩
      refine ⟨rfl, h', tk, m', nx, e, F', fun p hp => ?_, fun p hp hq => hn p hp (List.mem_singleton.mp hq), hm⟩
      rcases List.mem_append.mp hp with h | h
      · rcases hone p h with rfl | rfl
        · exact N' _ (.head _)
        · exact N' _ (.tail _ (hJ _ _ hm))
      · exact N' _ (.tail _ h)
    cases f with
    | ret v => exact .ret p
    | brk => exact .brk p
    | next => exact .next (fin p)
    | cont => exact .cont (fin p)
  · rintro h' tk m' news' F' N' _ hJ
    exact done m' news' h' tk hJ F' N'
end

/-- the two ends agree where just one entry is found -/
theorem FoundOf.sameLen {P P' : Int → Int → Prop} {R : List (Str × Str)} {a b : Str} : ∀ {i : Nat} {l l' : List (Int × Int)}, FoundOf P R a b i l → FoundOf P' R a b i l' → l.length = l'.length
  | _, _, _, .zero, .zero => rfl
  | _, _, _, .succ h e, .succ h' e' => by
    rw [List.length_append, List.length_append, h.sameLen h']
    rcases e with ⟨c, rfl⟩ | ⟨c, x, _, rfl⟩ | ⟨c, c', rfl⟩ <;> rcases e' with ⟨d, rfl⟩ | ⟨d, y, _, rfl⟩ | ⟨d, d', rfl⟩ <;> first | rfl | exact absurd c d | exact absurd d c | exact absurd c d' | exact absurd d c'
theorem FoundOf.has {P : Int → Int → Prop} {R : List (Str × Str)} {a b : Str} : ∀ {i : Nat} {l : List (Int × Int)}, FoundOf P R a b i l → ∀ k : Nat, k < i → (Cond1 R a b k ∨ Cond2 R a b k) → ∃ e, ((k : Int), e) ∈ l
  | _, _, .zero, k, hk, _ => absurd hk (Nat.not_lt_zero _)
  | i + 1, _, .succ (l := l0) (l' := l1) h e, k, hk, hc => by
    by_cases hki : k < i
    · obtain ⟨x, hx⟩ := h.has k hki hc
      exact ⟨x, List.mem_append_left _ hx⟩
    · have : k = i := by omega
      subst this
      rcases e with ⟨_, rfl⟩ | ⟨_, x, _, rfl⟩ | ⟨c1, c2, rfl⟩
      · exact ⟨_, List.mem_append_right _ (.head _)⟩
      · exact ⟨x, List.mem_append_right _ (.head _)⟩
      · rcases hc with c | c
        · exact absurd c c1
        · exact absurd c c2
theorem FoundOf.mem {P : Int → Int → Prop} {R : List (Str × Str)} {a b : Str} : ∀ {i : Nat} {l : List (Int × Int)}, FoundOf P R a b i l → ∀ k e, (k, e) ∈ l → 0 ≤ k ∧ k < i ∧ ((Cond1 R a b k ∧ e = k) ∨ (Cond2 R a b k ∧ P k e))
  | _, _, .zero, k, e, hm => by simp at hm
  | i + 1, _, .succ h en, k, e, hm => by
    rcases List.mem_append.mp hm with hm | hm
    · obtain ⟨h0, h1, h2⟩ := h.mem k e hm
      exact ⟨h0, by omega, h2⟩
    · rcases en with ⟨c, rfl⟩ | ⟨c, x, hp, rfl⟩ | ⟨c1, c2, rfl⟩
      · have hm := List.mem_singleton.mp hm
        injection hm with e1 e2
        subst e1 e2
        exact ⟨by omega, by omega, .inl ⟨c, rfl⟩⟩
      · have hm := List.mem_singleton.mp hm
        injection hm with e1 e2
        subst e1 e2
        exact ⟨by omega, by omega, .inr ⟨c, hp⟩⟩
      · simp at hm
theorem ends_agree {R : List (Str × Str)} {a b : Str} {k e e' : Int} (hwf : WfR R) (h0 : 0 ≤ k) (hc : Cond2 R a b k) (h1 : lawEndSpec R k e) (h2 : secEndSpec R k e')
    (honly : ∀ j : Int, k < j → j < R.length → ¬ Cond2 R a b j) : e = e' := by
  obtain ⟨l1, l2, l3, l4⟩ := h1
  obtain ⟨s1, s2, s3, s4⟩ := h2
  have named : ∀ d : Nat, k + d ≤ e → sec R (k + d) = sec R k := by
    intro d
    induction d with
    | zero => intro _; simp
    | succ d ih =>
      intro hd
      have := hwf (k + (d + 1 : Nat)) (by omega) (by omega) (l3 _ (by omega) (by omega))
      rw [this, show k + ((d + 1 : Nat) : Int) - 1 = k + d by omega]
      exact ih (by omega)
  have namedj : ∀ j : Int, k ≤ j → j ≤ e → sec R j = sec R k := fun j hj1 hj2 => by
    have := named (j - k).toNat (by omega)
    rwa [show k + ((j - k).toNat : Int) = j by omega] at this
  have hle : e ≤ e' := by
    by_cases h : e ≤ e'
    · exact h
    · exfalso
      exact s4 (by omega) (namedj (e' + 1) (by omega) (by omega))
  have hge : e' ≤ e := by
    by_cases h : e' ≤ e
    · exact h
    · exfalso
      have hn := l4 (by omega)
      have hs := s3 (e + 1) (by omega) (by omega)
      exact honly (e + 1) (by omega) (by omega) ⟨hc.1, hn, hs.trans hc.2.2.1, hc.2.2.2⟩
  omega
theorem plain_law {R : List (Str × Str)} {a b : Str} {l : List (Int × Int)} {d : Int × Int} (hwf : WfR R) (h1 : FoundOf (lawEndSpec R) R a b R.length l) (h2 : FoundOf (secEndSpec R) R a b R.length [d]) : l = [d] := by
  have hlen : l.length = 1 := by rw [h1.sameLen h2]; rfl
  obtain ⟨c, rfl⟩ := List.length_eq_one_iff.mp hlen
  obtain ⟨k, e⟩ := c
  obtain ⟨k', e'⟩ := d
  obtain ⟨p0, p1, p2⟩ := h1.mem k e (.head _)
  obtain ⟨q0, q1, q2⟩ := h2.mem k' e' (.head _)
  have hk : k = k' := by
    have hc : Cond1 R a b k ∨ Cond2 R a b k := p2.elim (fun h => .inl h.1) (fun h => .inr h.1)
    obtain ⟨n, rfl⟩ := Int.eq_ofNat_of_zero_le p0
    obtain ⟨x, hx⟩ := h2.has n (by omega) hc
    have := List.mem_singleton.mp hx
    injection this
  subst hk
  have : e = e' := by
    rcases p2 with ⟨c, rfl⟩ | ⟨c, hp⟩ <;> rcases q2 with ⟨c', rfl⟩ | ⟨c', hq⟩
    · rfl
    · exact absurd c' (cond_not (P := lawEndSpec R) c)
    · exact absurd c (cond_not (P := lawEndSpec R) c')
    · refine ends_agree hwf p0 c hp hq fun j hj1 hj2 hcj => ?_
      obtain ⟨n, rfl⟩ := Int.eq_ofNat_of_zero_le (show 0 ≤ j by omega)
      obtain ⟨x, hx⟩ := h1.has n (by omega) (.inr hcj)
      have := List.mem_singleton.mp hx
      injection this with e1 e2
      omega
  rw [this]

theorem CallsT.use {prog : Program} {w : World} {f : Addr} {k : Nat} {vs : List Value} {news : Led} {Post : Value → Led → Prop} {p : Program} {loose : List Str} {mean : ExcName → Option Value} {mg mb : Str → Option Value} {dp un : Nat} {gd : Option (List Code)} {cn : Str} {cs : Scope} {a : Addr} {ccd : Value} {cl : List (Str × Addr)} {A₀ : Around} {base h₀ : Heap} {L : Addr} {m : Str → Option Value} {s : Shared} {Q E : Value → Shared → Prop}
    (C : CallsT prog w f k vs news Post) (B : Below A₀ base [] h₀) (F : Fr h₀ L s.heap m) (X : (Mine.hd.heap_39 w.params).In h₀) (XB : (Mine.hd.heap_39 w.params).In base) (N : News h₀ L s.heap news) (T : Top p loose mean mg mb h₀) (TB : Top p loose mean mg mb base) (hk : cs.kind = .function)
    (hd : dp + k < recursionLimit) (hu : un + 8 * k < cLine)
    (ret : ∀ r h' tk' news', Fr h₀ L h' m → News h₀ L h' news' → Post r news' → Q r { s with heap := h', toks := tk' }) :
    wpAny (model prog w) (ktrTop dp un gd cn cs L a ccd cl []) (call (.ref f) vs) Q E s := C p loose mean mg mb dp un gd cn cs a ccd cl A₀ base h₀ L m s Q E B F X XB N T TB hk hd hu ret
section
variable {prog : Program} {w : World} {A : Around} {E : Value → Shared → Prop} {s : Shared} {h₀ : Heap} {L : Addr} {led : Led}
theorem ne_ints {q q2 : Addr} {a b : Int} {ta tb tc td : Tok} {n1 n2 : Nat} {Q : Value → Shared → Prop} (N : News h₀ L s.heap led) (h1 : (q, tup [.int a ta, .int b tb] n1) ∈ led) (h2 : (q2, tup [.int a tc, .int b td] n2) ∈ led) (hu : A.units + 64 < cLine) (h : Q (.bool false) s) :
    wpAny (model prog w) A (compareOp .NotEq (.ref q) (.ref q2)) Q E s := by
  have hsh : SeqAt.shaped (.tuple [.int a, .int b]) = true := by simp [SeqAt.shaped, PyData.canLay0, PyData.canLayAll0, PyData.depth, PyData.depthAll]
  refine ne_dataH (reads_tuple_at (News.get N h1) rfl rfl (ReadsAll.cons (Reads.int a ta) (ReadsAll.cons (Reads.int b tb) ReadsAll.nil))) (reads_tuple_at (News.get N h2) rfl rfl (ReadsAll.cons (Reads.int a tc) (ReadsAll.cons (Reads.int b td) ReadsAll.nil))) hsh hsh hu ?_
  rw [SeqAt.eqv_refl _ (SeqAt.canLay_of_shaped hsh)]
  exact h
end
theorem name_in {l : List Value} {v : Value} (hl : l.all isName = true) (hv : v ∈ l) : ∃ x t, v = .str x t ∧ PyData.strOk x = true ∧ x.length ≤ 10 := isName_of (List.all_eq_true.mp hl v hv)
theorem six_in {v : Value} {t1 t2 t3 t4 t5 t6 : Tok} (h : v ∈ [Value.str (Str.ofString "A") t1, Value.str (Str.ofString "B") t2, Value.str (Str.ofString "C-1") t3, Value.str (Str.ofString "D") t4, Value.str (Str.ofString "") t5, Value.str (Str.ofString "E") t6]) :
    ∃ x t, v = .str x t ∧ PyData.strOk x = true ∧ x.length ≤ 10 := by
  simp only [List.mem_cons, List.not_mem_nil, or_false] at h
  rcases h with rfl | rfl | rfl | rfl | rfl | rfl <;> exact ⟨_, _, rfl, by decide +kernel, by decide +kernel⟩
end Mine
end
section
namespace Mine
local macro_rules | `(tactic| k_all) => `(tactic| assumption)
local macro_rules | `(tactic| k_mem) => `(tactic| assumption)
local macro_rules | `(tactic| is_list) => `(tactic| exact News.isList (by k_asm) (by k_mem))
local macro_rules | `(tactic| walk_at "eval Name") => `(tactic| (k_here; (with_reducible show wpAny _ _ (eval (Expr.Name _ _) (envOfC _ _ _ _ _)) _ _ _); k_dflt (refine' nameX_L ?F ?v ?_ ?a ?b; (case F => k_asm); (case a => rfl); (case b => rfl); (case v => first | exact rfl | assumption); k_whole)))
local macro_rules | `(tactic| walk_at "storeName") => `(tactic| (k_here; k_dflt (refine' store_cellS ?F ?N ?c ?m ?d ?_ ?a ?b; (case a => rfl); (case b => rfl); (case F => k_asm); (case N => k_asm); (case c => rfl); (case m => k_mem); (case d => k_asm); k_whole); intro h' o' F' hN' d'))
local macro_rules | `(tactic| walk_at "storeName") => `(tactic| (k_here; k_dflt (refine' storeX_L ?F ?N ?_ ?a ?b; (case a => rfl); (case b => rfl); (case F => k_asm); (case N => k_asm); k_whole; intro h' F' N'; (try k_sweep))))
local macro_rules | `(tactic| walk_at "subscriptTail Name Call ref int") => `(tactic| (k_here; k_dflt (refine' names_at ?F ?X ?hl ?al ?ln ?h0 ?h1 ?_; (case F => k_asm); (case X => k_asm); (case hl => k_is); (case al => decide +kernel); (case ln => rfl); (case h0 => omega); (case h1 => omega); k_whole); intro x' t' hx' hy'))
local macro_rules | `(tactic| walk_at "call builtin:list.append") => `(tactic| (k_here; (with_reducible show wpAny _ _ (call (Value.builtin _) [Value.ref _, _]) _ _ _); (refine' append_S ?k1 ?k2 ?k3 ?_ ?z; (case k1 => k_asm); (case k2 => k_asm); (case k3 => k_mem); (case z => (simp only [List.size_toArray]; rw [sizeLine_eq]; omega))); intro h' F' hN'))
local macro_rules | `(tactic| walk_at "call builtin:len") => `(tactic| (k_here; (with_reducible show wpAny _ _ (call (Value.builtin "len") [Value.ref _]) _ _ _); refine len_rows (by k_asm) (by k_mem) (by assumption) (by omega) ?_))
local macro_rules | `(tactic| walk_at "binaryOp Mult ref int") => `(tactic| (k_here; (refine' mul_tup ?F ?N ?m ?a ?b ?_; (case F => k_asm); (case N => k_asm); (case m => k_mem); (case a => exact fmod3_lo _); (case b => exact fmod3_hi _)); intro D' h' vs' nn' ext' F' N' hx' hm' hv' hl'))
local macro_rules | `(tactic| walk_at "subscriptTail Name Slice ref ref") => `(tactic| (k_here; k_dflt (refine' slice_tuple_upto ?X ?hl ?F ?N ?ln ?a ?b ?_ ?s ?t; (case F => k_asm); (case N => k_asm); (case X => k_asm); (case hl => k_is); (case ln => rfl); (case a => omega); (case b => omega); (case s => with_unfolding_all rfl); (case t => (intro _; with_unfolding_all rfl)); k_whole); intro D' h' F' N' l1))
local macro_rules | `(tactic| walk_at "subscriptTail Name Name ref int") => `(tactic| (k_here; first
  | (refine sub_rows (by k_asm) (by k_mem) (by assumption) (by omega) (by omega) (by omega) ?_; intro x' n' ta' tb' hx' m1')
  | (refine sub_body (by k_asm) (by k_mem) (by assumption) (Int.zero_add _) (by assumption) (by omega) ?_; intro b' hb')))
local macro_rules | `(tactic| walk_at "newTuple") => `(tactic| (k_here; k_dflt (refine' kup_newTuple ?F ?N ?_ ?z; (case F => k_asm); (case N => k_asm); (case z => size_fits)); intro D' h' F' N' l1; (try k_sweep)))
local macro_rules | `(tactic| walk_at "call type:range") => `(tactic| ((rename Fr _ _ _ _ => F'); (rename News _ _ _ _ => N'); first
  | (refine range1_rows F' N' ?_; intro _ _ _ _ _ _ _ _ _)
  | (refine range2_rows F' N' ?_; intro _ _ _ _ _ _ _ _ _)))
local macro_rules | `(tactic| walk_at "law_steps") => `(tactic| repeat' (
  fail_if_success (with_reducible show wpAny _ _ (exec (PySem.Stmt.For _ _ _ _ _) _) _ _ _);
  fail_if_success (with_reducible show wpAny _ _ (execs _ _) _ _ _);
  fail_if_success (with_reducible show wpAny _ _ (call (Value.ref 131) _) _ _ _);
  fail_if_success (with_reducible show wpAny _ _ (call (Value.ref 136) _) _ _ _);
  fail_if_success (with_reducible show wpAny _ _ (pyIter _) _ _ _);
  first | (k_unfold; (try dsimp only)) | (k_end; wrow_close) | walk1 | (dsimp only; walk1) | (leave1; walk_say "STEP leave1"; try dsimp only) | fail "no step"))
local macro_rules | `(tactic| walk_at "law_steps2") => `(tactic| repeat' (
  fail_if_success (with_reducible show wpAny _ _ (eval (PySem.Expr.ListComp _ _ _ _) _) _ _ _);
  fail_if_success (with_reducible show LCg.CompSrc _ _ _ _ _ _ _ _ _ _ _ _ _ _);
  fail_if_success (with_reducible show wpAny _ _ (exec (PySem.Stmt.For _ _ _ _ _) _) _ _ _);
  fail_if_success (with_reducible show wpAny _ _ (execs _ _) _ _ _);
  fail_if_success (with_reducible show wpAny _ _ (call (Value.ref 131) _) _ _ _);
  fail_if_success (with_reducible show wpAny _ _ (pyIter _) _ _ _);
  first | (k_unfold; (try dsimp only)) | (k_end; wrow_close) | walk1 | (dsimp only; walk1) | (leave1; walk_say "STEP leave1"; try dsimp only) | fail "no step"))
local macro_rules | `(tactic| walk_at "one_step") => `(tactic| (first | (k_unfold; (try dsimp only)) | (k_end; wrow_close) | walk1 | (dsimp only; walk1) | (leave1; walk_say "STEP leave1"; try dsimp only) | fail "no step"))
local macro_rules | `(tactic| walk_at "par_steps") => `(tactic| repeat' (
  fail_if_success (with_reducible show wpAny _ _ (call (Value.ref 79) _) _ _ _);
  first | (k_unfold; (try dsimp only)) | (k_end; wrow_close) | walk1 | (dsimp only; walk1) | (leave1; walk_say "STEP leave1"; try dsimp only) | fail "no step"))
local macro_rules | `(tactic| walk_at "proc_steps") => `(tactic| repeat' (
  fail_if_success (with_reducible show wpAny _ _ (call (Value.ref 119) _) _ _ _);
  first | (k_unfold; (try dsimp only)) | (k_end; wrow_close) | walk1 | (dsimp only; walk1) | (leave1; walk_say "STEP leave1"; try dsimp only) | fail "no step"))
local macro_rules | `(tactic| walk_at "cmp_steps") => `(tactic| repeat' (
  fail_if_success (with_reducible show wpAny _ _ (eval (PySem.Expr.ListComp _ _ _ _) _) _ _ _);
  fail_if_success (with_reducible show LCg.CompSrc _ _ _ _ _ _ _ _ _ _ _ _ _ _);
  fail_if_success (with_reducible show wpAny _ _ (call (Value.ref 102) _) _ _ _);
  fail_if_success (with_reducible show wpAny _ _ (execs _ _) _ _ _);
  fail_if_success (with_reducible show wpAny _ _ (compareOp _ _ _) _ _ _);
  fail_if_success (with_reducible show wpAny _ _ (call (Value.type "tuple") _) _ _ _);
  first | (k_unfold; (try dsimp only)) | (k_end; wrow_close) | walk1 | (dsimp only; walk1) | (leave1; walk_say "STEP leave1"; try dsimp only) | fail "no step"))
local macro_rules | `(tactic| walk_at "add_steps") => `(tactic| repeat' (
  fail_if_success (with_reducible show wpAny _ _ (newTuple _) _ _ _);
  fail_if_success (with_reducible show wpAny _ _ (binaryOp _ _ _) _ _ _);
  first | (k_unfold; (try dsimp only)) | (k_end; wrow_close) | walk1 | (dsimp only; walk1) | (leave1; walk_say "STEP leave1"; try dsimp only) | fail "no step"))
local macro_rules | `(tactic| walk_at "for_steps") => `(tactic| repeat' (
  fail_if_success (with_reducible show wpAny _ _ (exec (PySem.Stmt.For _ _ _ _ _) _) _ _ _);
  fail_if_success (with_reducible show wpAny _ _ (pyIter _) _ _ _);
  fail_if_success (with_reducible show wpAny _ _ (call (Value.ref 143) _) _ _ _);
  fail_if_success (with_reducible show wpAny _ _ (call (Value.ref 150) _) _ _ _);
  fail_if_success (with_reducible show wpAny _ _ (call (Value.builtin "len") _) _ _ _);
  fail_if_success (with_reducible show wpAny _ _ (compareOp PySem.CmpOp.NotEq (Value.ref _) _) _ _ _);
  fail_if_success (with_reducible show wpAny _ _ (binaryOp _ _ _) _ _ _);
  first | (k_unfold; (try dsimp only)) | (k_end; wrow_close) | walk1 | (dsimp only; walk1) | (leave1; walk_say "STEP leave1"; try dsimp only) | fail "no step"))
local macro_rules | `(tactic| walk_at "end_steps") => `(tactic| repeat' (first | (k_unfold; (try dsimp only)) | (k_end; wrow_close) | walk1 | (dsimp only; walk1) | (leave1; walk_say "STEP leave1"; try dsimp only) | fail "no step"))
local macro_rules | `(tactic| walk_at "turn_steps") => `(tactic| repeat' (
  fail_if_success (with_reducible show wpAny _ _ (call (Value.ref 131) _) _ _ _);
  first | (k_unfold; (try dsimp only)) | (k_end; wrow_close) | walk1 | (dsimp only; walk1) | (leave1; walk_say "STEP leave1"; try dsimp only) | fail "no step"))
set_option maxHeartbeats 16000000 in
theorem lawT : PySem.Challenge.rw_pc0120_01.Holds := Mine.hd (by
  k_go0
  all_goals (try k_fold)
  rename Frag.In _ _ => KX
  rename Below _ _ _ _ => B0
  rename Top _ _ _ _ _ _ => T0
  rename Fr _ _ _ _ => F0
  rename News _ _ _ _ => N0
  rename IntsAre _ _ => hI
  rename Heap.IsList _ _ _ => hL
  rename Shared => sx
  refine wpAny_execs_cons ?_
  walk_at "law_steps"
  refine' source_ok _ _ _ _ _ hI ?vn _ _ _ _ _ _ _ _ _ _ _ _ _ _ _ _ _ _ _ _ _ _ _ _ _ _ hL ?vB ?vF ?vX ?vN ?vT ?vk ?vd ?vu ?_
  case vn => omega
  case vB => exact B0
  case vF => k_asm
  case vX => k_asm
  case vN => k_asm
  case vT => k_asm
  case vk => exact rfl
  case vd => ktr_room
  case vu => ktr_units
  rintro src c cells cns n1 n2 ta h2 tk2 F2 N2 hcs hs1 hs2 hc1 hc2 hcells hc0 hc60
  change @Ne Nat _ _ at hc1 hc2
  change @LT.lt Nat _ _ _ at hcs hs1 hs2
  walk_at "law_steps"
  refine wpAny_execs_cons ?_
  refine wpAny_mono (Q := fun f s' => Cut (f = .next ∧ ∃ h tk m nx R, s' = { sx with heap := h, toks := tk } ∧ Fr sx.heap sx.heap.objs.size h m ∧ News sx.heap sx.heap.objs.size h nx ∧
    LawW src c (sx.heap.objs.size + 1) (sx.heap.objs.size + 1 + 1) cells n1 n2 m R nx ∧ RowsG R (Str.ofString "") ∧ R.length ≤ 1)) ?_ ?_ (fun _ _ x => x)
  · walk_at "law_steps"
    refine' Calls.use (draw_ok _ _ src c n1 n2 cells cns 0 _ _ 2 _ ?vm hcells hc0 ?va ?vl (ne3 hcs hs1 hs2) hc60) ?vB ?vF ?vX ?vN ?vT ?vk ?vd ?vu ?_
    case vm => exact .head _
    case va => omega
    case vl => omega
    case vB => exact B0
    case vF => k_asm
    case vX => k_asm
    case vN => k_asm
    case vT => k_asm
    case vk => exact rfl
    case vd => ktr_room
    case vu => ktr_units
    rintro r h3 tk3 news3 F3 N3 ⟨v, t, t', rfl, hv0, hv1, rfl⟩
    walk_at "law_steps"
    · rename (_ < _ ∧ src < _ ∧ c < _ ∧ _ < _ ∧ _ < _) => q2
      rename (∀ p ∈ [_, _, _, _], _ < _) => ql
      have q1 : @LT.lt Nat _ src _ ∧ @LT.lt Nat _ c _ ∧ @LT.lt Nat _ _ _ ∧ @LT.lt Nat _ _ _ := ⟨ql _ (.head _), ql _ (.tail _ (.head _)), ql _ (.tail _ (.tail _ (.head _))), ql _ (.tail _ (.tail _ (.tail _ (.head _))))⟩
      rename (∀ nx : Led, _ → News _ _ _ _) => hN'
      rename Fr _ _ _ _ => F'
      obtain ⟨nx, hNX, hW⟩ := lawW_mk (R := [(Str.ofString "", Str.ofString "")]) (cb := sx.heap.objs.size + 1 + 1) (n2 := n2) (cells := cells) (src := src) (c := c) (n1 := n1) (ext := [(_, tup [.str (Str.ofString "") (tk3 + 1), .str (Str.ofString "") (tk3 + 1 + 1)] 0)]) F' hN' (by assumption) rfl (.tail _ (.tail _ (.head _))) (.head _) (.tail _ (.tail _ (.tail _ (.head _)))) (.tail _ (.tail _ (.tail _ (.tail _ (.head _))))) (by assumption)
        (fun p hp => by rw [List.mem_singleton.mp hp]; exact .tail _ (.head _)) (RowsV.snoc RowsV.nil (fun p hp => hp) (.head _)) (by omega) (by refine ⟨?_, ?_, ?_, ?_, ?_, ?_⟩ <;> (show @Ne Nat _ _; omega)) (by refine ⟨?_, ?_, ?_, ?_⟩ <;> (show @Ne Nat _ _; omega)) (fun p hp => by rw [List.mem_singleton.mp hp]; refine ⟨?_, ?_, ?_, ?_⟩ <;> (show @Ne Nat _ _; omega))
      exact Cut.intro ⟨trivial, _, _, _, nx, _, rfl, F', hNX, hW, RowsG.snoc RowsG.nil strOk_empty strOk_empty (.inl rfl), by simp⟩
    · rename (src < _ ∧ c < _ ∧ _ < _ ∧ _ < _) => q1
      rename (∀ nx : Led, _ → News _ _ _ _) => hN'
      rename Fr _ _ _ _ => F'
      obtain ⟨nx, hNX, hW⟩ := lawW_mk (R := []) (vs := []) (cb := sx.heap.objs.size + 1 + 1) (n2 := n2) (cells := cells) (src := src) (c := c) (n1 := n1) (ext := []) F' hN' (by assumption) rfl (.tail _ (.head _)) (.head _) (.tail _ (.tail _ (.head _))) (.tail _ (.tail _ (.tail _ (.head _)))) (by assumption)
        (fun p hp => by simp at hp) RowsV.nil (by omega) (by refine ⟨?_, ?_, ?_, ?_, ?_, ?_⟩ <;> (show @Ne Nat _ _; omega)) (by refine ⟨?_, ?_, ?_, ?_⟩ <;> (show @Ne Nat _ _; omega)) (fun p hp => by simp at hp)
      exact Cut.intro ⟨trivial, _, _, _, nx, _, rfl, F', hNX, hW, RowsG.nil, by simp⟩
  · rintro f s' ⟨rfl, h4, tk4, m4, nx4, R4, rfl, F4, N4, hW4, hG4, hR4⟩
    dsimp only
    refine wpAny_execs_cons ?_
    walk_at "law_steps"
    rename Fr _ _ _ _ => F5
    rename News _ _ _ _ => N5
    refine wpAny_execs_cons ?_
    refine wpAny_mono (Q := fun f s' => Cut (f = .next ∧ ∃ h tk m nx R, s' = { sx with heap := h, toks := tk } ∧ Fr sx.heap sx.heap.objs.size h m ∧ News sx.heap sx.heap.objs.size h nx ∧
      LawW src c (sx.heap.objs.size + 1) (sx.heap.objs.size + 1 + 1) cells n1 n2 m R nx ∧ RowsOk R ∧ WfR R ∧ R.length ≤ 11)) ?_ ?_ (fun _ _ x => x)
    · obtain ⟨lr, vs, nl, at_, ta4, ocr, ocb, rest, rfl, ha0, hms, hd1, hd2, hcm, hV, dd1, dd2⟩ := hW4
      refine' For_invVF F5 (by rfl) (by rfl) ?_
      walk_at "law_steps"
      refine' Calls.use (draw_ok _ _ src c n1 n2 cells cns at_ _ _ 10 _ ?vm hcells hc0 ha0 ?vl ?vr hc60) ?vB ?vF ?vX ?vN ?vT ?vk ?vd ?vu ?_
      case vN => exact N5
      case vm => exact .tail _ (.tail _ (.tail _ hcm))
      case vl => omega
      case vr => exact ne_rest dd1 dd2
      case vB => exact B0
      case vF => k_asm
      case vX => k_asm
      case vT => k_asm
      case vk => exact rfl
      case vd => ktr_room
      case vu => ktr_units
      rintro r h6 tk6 news6 F6 N6 ⟨v, t, t', rfl, hv0, hv1, rfl⟩
      obtain ⟨nn, rfl⟩ := Int.eq_ofNat_of_zero_le hv0
      clear F5 N5
      walk_at "law_steps"
      rename Fr _ _ _ _ => F7
      rename News _ _ _ _ => N7
      rename IsRange _ _ _ _ _ _ _ _ => hrg
      refine loop_range nn (fun i m nx => ∃ R sc tsc, LawW src c (sx.heap.objs.size + 1) (sx.heap.objs.size + 1 + 1) cells n1 n2 m R nx ∧ RowsG R sc ∧ PySem.PyData.strOk sc = true ∧ R.length ≤ 1 + i ∧ m (Str.ofString "section") = some (.str sc tsc)) rfl hrg (small_one (by omega) (by omega) (by omega) (by omega)) (by rw [rangeSize_nat]; omega) F7 N7
        ⟨R4, _, _, ⟨lr, vs, nl, _, _, ocr, ocb, rest, rfl, by omega, hms, hd1, hd2, hcm, hV, dd1, dd2⟩, hG4, strOk_empty, hR4, rfl⟩ ?_ ?_
      · clear F7 N7 hrg hms hd1 hd2 hcm hV dd1 dd2 hG4 hR4
        rintro i t m nx h tk I o hi hI ⟨R, sc, tsc, ⟨lr, vs, nl, at_, ta4, ocr, ocb, rest, rfl, ha0, hms, hd1, hd2, hcm, hV, dd1, dd2⟩, hG, hsc, hR, hmsec⟩ F8 N8
        have hvs : vs.length ≤ 1000 := by have := hV.1; omega
        dsimp only [envOfC] at F8 N8
        walk_at "turn_steps"
        refine' Calls.use (draw_ok _ _ src c n1 n2 cells cns at_ _ _ 4 _ ?vm hcells hc0 ha0 ?vl ?vr hc60) ?vB ?vF ?vX ?vN ?vT ?vk ?vd ?vu ?_
        case vN => exact News.swap N8
        case vm => exact .tail _ (.tail _ (.tail _ (.tail _ hcm)))
        case vl => omega
        case vr => exact ne_rest2 (hI _ (.head _)) dd1 dd2
        case vB => exact B0
        case vF => k_asm
        case vX => k_asm
        case vT => k_asm
        case vk => exact rfl
        case vd => ktr_room
        case vu => ktr_units
        rintro r h9 tk9 news9 F9 N9 ⟨v, t9, t9', rfl, hv0, hv1, rfl⟩
        clear N8 F8
        walk_at "turn_steps"
        rename News _ _ _ _ => N10
        rename Fr _ _ _ _ => F10
        refine' Calls.use (draw_ok _ _ src c n1 n2 cells cns (at_ + 1) _ _ 3 _ ?vm hcells hc0 ?va ?vl ?vr hc60) ?vB ?vF ?vX ?vN ?vT ?vk ?vd ?vu ?_
        case vN => exact N10
        case vm => exact .tail _ (.tail _ (.tail _ (.tail _ hcm)))
        case va => omega
        case vl => omega
        case vr => exact ne_rest2 (hI _ (.head _)) dd1 dd2
        case vB => exact B0
        case vF => k_asm
        case vX => k_asm
        case vT => k_asm
        case vk => exact rfl
        case vd => ktr_room
        case vu => ktr_units
        rintro r h11 tk11 news11 F11 N11 ⟨v2, t11, t11', rfl, hw0, hw1, rfl⟩
        clear N10 F10
        walk_at "turn_steps"
        · rename Fr _ _ _ _ => F12
          rename (∀ nx : Led, _ → News _ _ _ _) => hN12
          rename (∀ p ∈ _, _ < _) => l12
          obtain ⟨nx', hN13, hI13, hW13⟩ := lawW_app (m' := _) hN12 l12 (hI_of hI) (by omega) hms hd1 hd2 hcm hV dd1 dd2
          exact turnk_next F12 hN13 hI13 ⟨_, _, _, hW13, RowsG.snoc hG strOk_empty (by assumption) (.inl rfl), by assumption, by simp; omega, rfl⟩
        · rename Fr _ _ _ _ => F12
          rename (∀ nx : Led, _ → News _ _ _ _) => hN12
          rename (∀ p ∈ _, _ < _) => l12
          obtain ⟨nx', hN13, hI13, hW13⟩ := lawW_app (m' := _) hN12 l12 (hI_of hI) (by omega) hms hd1 hd2 hcm hV dd1 dd2
          exact turnk_next F12 hN13 hI13 ⟨_, _, _, hW13, RowsG.snoc hG (by assumption) hsc (.inr rfl), hsc, by simp; omega, hmsec⟩
      · rintro m nx h tk ⟨R, sc, tsc, hW, hG, hsc, hR, hmsec⟩ F8 N8
        exact Cut.intro ⟨rfl, h, tk, m, nx, R, rfl, F8, N8, hW, hG.ok, hG.wf, by omega⟩
    · rintro f s' ⟨rfl, h5, tk5, m5, nx5, R, rfl, F5, N5, hW5, hok, hwf, hR⟩
      dsimp only
      obtain ⟨lr, vs, nl, at_, ta4, ocr, ocb, rest, rfl, ha0, hms, hd1, hd2, hcm, hV, dd1, dd2⟩ := hW5
      refine wpAny_execs_cons ?_
      walk_at "law_steps2"
      k_dflt (refine LCg.ListComp_U (F₀ := F5) (by with_unfolding_all rfl) (by decide) (by rfl) (by decide) (by rfl) ?_)
      walk_at "law_steps2"
      rename Fr _ _ _ _ => F6
      rename News _ _ _ _ => N6
      rename IsRange _ _ _ _ _ _ _ _ => hrg
      refine LCg.CompSrc.range (n := R.length) rfl F6 N6 hrg (small_one (by omega) (by omega) (by omega) (by omega)) (by rw [rangeSize_nat]; omega) (by rw [sizeLine_eq]; omega) ?_
      intro g6
      refine comp_rest (JBod _) ?_ JBod.zero ?_
      · rintro i v I oI C oC D m₂ ys nx h tk E' hi ⟨t, rfl⟩ hC hx F7 N7 off ne ⟨e, rfl, hab, hyl, hys⟩
        walk_at "turn_steps"
        rename Fr _ _ _ _ => F8
        rename News _ _ _ (_ ++ _) => N8
        rename Above _ _ => hx8
        rename (∀ y ∈ _, y = _) => hv8
        rename List.length _ ≤ 2 => hl8
        rename (_ ∈ _ ∨ _ = _) => hm8
        exact body_end F8 N8 hx8 (by assumption) (by assumption) off hm8 hv8 hl8 strOk_cont hab hyl hys
      · rintro ys nx ⟨e, rfl, hab, hyl, hys⟩
        intro D h tk F7 N7 off
        clear F6 N6 hrg
        refine wpAny_mono (Q := fun _ s' => Cut (∃ h tk nx, s' = { sx with heap := h, toks := tk } ∧ Fr sx.heap sx.heap.objs.size h m5 ∧ News sx.heap sx.heap.objs.size h nx ∧ LawB src c (sx.heap.objs.size + 1) (sx.heap.objs.size + 1 + 1) cells n1 n2 m5 R nx)) ?_ ?_ (fun _ _ x => x)
        · have hmem : (sx.heap.objs.size + 1 + 1, ocb) ∈ (D, LCg.lst ys) :: (e ++ (src, listOf #[Value.ref c, Value.int at_ ta4] n1) :: (lr, listOf vs.toArray nl) :: (sx.heap.objs.size + 1, ocr) :: (sx.heap.objs.size + 1 + 1, ocb) :: rest) := by simp
          walk_at "law_steps2"
          rename (∀ nx : Led, _ → News _ _ _ _) => hN8
          rename Fr _ _ _ _ => F8
          obtain ⟨nx, hN9, hB9⟩ := lawB_mk hN8 (by assumption) hab off ha0 hms hd1 hcm hV hyl hys dd1 dd2
          exact Cut.intro ⟨_, _, nx, rfl, F8, hN9, hB9⟩
        · rintro _ s' ⟨h9, tk9, nx9, rfl, F9, N9, hB9⟩
          clear N7 F7 off hab
          clear hV hcm hd1 hd2 dd1 dd2 hms ha0 hyl hys
          obtain ⟨lr, vs, nl, at_, ta4, ocr, ocb, D, ys, nD, led, rfl, ha0, hms, hne, hcm, hlm, hrm, hrd, hbm, hbd, hDm, hV, hyl, hys⟩ := hB9
          walk_at "law_steps2"
          refine wpAny_execs_cons ?_
          walk_at "law_steps2"
          refine' Calls.use (draw_ok _ _ src c n1 n2 cells cns at_ _ _ 4 _ ?vm hcells hc0 ha0 ?vl ?vr hc60) ?vB ?vF ?vX ?vN ?vT ?vk ?vd ?vu ?_
          case vN => exact N9
          case vm => exact hcm
          case vl => omega
          case vr => exact hne
          case vB => exact B0
          case vF => k_asm
          case vX => k_asm
          case vT => k_asm
          case vk => exact rfl
          case vd => ktr_room
          case vu => ktr_units
          rintro r h10 tk10 news10 F10 N10 ⟨v, t, t', rfl, hv0, hv1, rfl⟩
          clear N9 F9
          walk_at "law_steps2"
          rename Fr _ _ _ _ => F11
          rename News _ _ _ _ => N11
          obtain ⟨led2, N12, hs2, hU⟩ := using_mk N11 (by decide +kernel)
          replace hlm := hs2 _ hlm
          replace hrm := hs2 _ hrm
          replace hbm := hs2 _ hbm
          replace hDm := hs2 _ hDm
          replace hV := hV.mono hs2
          replace hys : ∀ y ∈ ys, BodyOk led2 y := fun y hy => (hys y hy).mono hs2
          clear N11 hcm hne hs2
          refine wpAny_execs_cons ?_
          walk_at "law_steps2"
          k_dflt (refine LCg.ListComp_U (F₀ := F11) (by with_unfolding_all rfl) (by decide) (by rfl) (by decide) (by rfl) ?_)
          walk_at "law_steps2"
          rename Fr _ _ _ _ => F13
          rename News _ _ _ _ => N13
          rename IsRange _ _ _ _ _ _ _ _ => hrg
          refine LCg.CompSrc.range (n := R.length) rfl F13 N13 hrg (small_one (by omega) (by omega) (by omega) (by omega)) (by rw [rangeSize_nat]; omega) (by rw [sizeLine_eq]; omega) ?_
          intro g13
          refine comp_rest (JPar led2 R ys) ?_ JPar.zero ?_
          · rintro i v I oI C oC D' m₂ ps nx h tk E' hi ⟨t, rfl⟩ hC hx F14 N14 off ne ⟨e, rfl, hab, hpl, hps⟩
            have q14 : ∀ p ∈ led2, p ∈ (I, oI) :: (C, oC) :: (D', LCg.lst ps) :: (e ++ led2) := fun p hp => by simp [hp]
            have hlm' := q14 _ hlm
            have hrm' := q14 _ hrm
            have hbm' := q14 _ hbm
            have hDm' := q14 _ hDm
            have hV' := hV.mono q14
            walk_at "par_steps"
            rename (ys[i]? = some _) => hb14
            obtain ⟨⟨bt, hbt⟩, _⟩ := hys _ (List.mem_of_getElem? hb14)
            refine' Calls.use (par_ok _ _ _ _ _ _ _ _) ?vB ?vF ?vX ?vN ?vT ?vk ?vd ?vu ?_
            case vN => exact N14
            case vB => exact B0
            case vF => exact F14
            case vX => k_asm
            case vT => k_asm
            case vk => exact rfl
            case vd => ktr_room
            case vu => ktr_units
            rintro r h15 tk15 news15 F15 N15 ⟨x, dx, c1, c2, c3, k1, k2, k3, n, rfl, rfl, l1, l2⟩
            exact par_end F15 N15 l1 l2 off hab hpl hps hb14
          · rintro ps nx ⟨e, rfl, hab, hpl, hps⟩
            intro Dp h tk F14 N14 off
            clear F13 N13 hrg
            have hpars := (hps.mono fun p hp => List.Mem.tail (Dp, LCg.lst ps) hp).pars hpl
            have hl14 : (Dp, listOf ps.toArray ps.length) ∈ (Dp, LCg.lst ps) :: (e ++ led2) := .head _
            walk_at "proc_steps"
            refine' Calls.use (proc_ok _ _ _ _ _) ?vB ?vF ?vX ?vN ?vT ?vk ?vd ?vu ?_
            case vN => exact N14
            case vB => exact B0
            case vF => exact F14
            case vX => k_asm
            case vT => k_asm
            case vk => exact rfl
            case vd => ktr_room
            case vu => ktr_units
            rintro r h15 tk15 news15 F15 N15 ⟨x, dx, c1, c2, k1, k2, n, rfl, rfl, l1, l2⟩
            walk_at "law_steps2"
            rename Fr _ _ _ _ => F16
            rename News _ _ _ _ => N16
            obtain ⟨led3, N17, hs3, hs23⟩ : ∃ led3, News sx.heap sx.heap.objs.size _ led3 ∧ (∀ p ∈ _, p ∈ led3) ∧ (∀ p ∈ led2, p ∈ led3) := ⟨_, N16, fun _ h => h, fun p hp => by simp [hp]⟩
            have hP3 : ProcAt led3 x Dp _ := ⟨dx, c1, c2, k1, k2, n, hs3 _ (.head _), hs3 _ (.tail _ (.head _))⟩
            have hl3 : (Dp, listOf ps.toArray ps.length) ∈ led3 := hs3 _ (.tail _ (.tail _ (.head _)))
            have hps3 : ParsB led3 R ys ps := hps.mono fun p hp => hs3 _ (.tail _ (.tail _ (.tail _ hp)))
            replace hlm := hs23 _ hlm
            replace hrm := hs23 _ hrm
            replace hbm := hs23 _ hbm
            replace hDm := hs23 _ hDm
            replace hV := hV.mono hs23
            replace hU := hU.mono hs23
            replace hys : ∀ y ∈ ys, BodyOk led3 y := fun y hy => (hys y hy).mono hs23
            clear N16 hab hps off hpars hl14 l1 l2 hs3 hs23
            refine wpAny_execs_cons ?_
            obtain ⟨dp3, d1, d2, e1, e2, n3, hq1, hq2⟩ := id hP3
            walk_at "cmp_steps"
            refine' Calls.use (told_ok _ _ _ _ _ _ ys _ R _ hP3 hl3 hps3 hpl (by omega) (fun y hy => (hys y hy).1)) ?vB ?vF ?vX ?vN ?vT ?vk ?vd ?vu ?_
            case vN => exact N17
            case vB => exact B0
            case vF => exact F16
            case vX => k_asm
            case vT => k_asm
            case vk => exact rfl
            case vd => ktr_room
            case vu => ktr_units
            rintro r h18 tk18 led4 F18 N18 ⟨q, T, ts, rfl, hs4, hq, hT, htl, hts⟩
            clear N17 F16
            have hlm4 := hs4 _ hlm
            have hrm4 := hs4 _ hrm
            have hbm4 := hs4 _ hbm
            have hDm4 := hs4 _ hDm
            have hV4 := hV.mono hs4
            walk_at "cmp_steps"
            k_dflt (refine LCg.ListComp_U (F₀ := F18) (by with_unfolding_all rfl) (by decide) (by rfl) (by decide) (by rfl) ?_)
            walk_at "cmp_steps"
            rename Fr _ _ _ _ => F19
            rename News _ _ _ _ => N19
            rename IsRange _ _ _ _ _ _ _ _ => hrg
            refine LCg.CompSrc.range (n := R.length) rfl F19 N19 hrg (small_one (by omega) (by omega) (by omega) (by omega)) (by rw [rangeSize_nat]; omega) (by rw [sizeLine_eq]; omega) ?_
            intro g19
            refine comp_rest (JTol led4 R ys) ?_ JTol.zero ?_
            · rintro i v I oI C oC D' m₂ t2s nx h tk E' hi ⟨t, rfl⟩ hC hx F20 N20 off ne ⟨e4, rfl, hab, htl2, hts2⟩
              have q14 : ∀ p ∈ led4, p ∈ (I, oI) :: (C, oC) :: (D', LCg.lst t2s) :: (e4 ++ led4) := fun p hp => by simp [hp]
              have hlm' := q14 _ hlm4
              have hrm' := q14 _ hrm4
              have hbm' := q14 _ hbm4
              have hDm' := q14 _ hDm4
              have hV' := hV4.mono q14
              walk_at "add_steps"
              rename (ys[i]? = some _) => hb20
              rename ((_, tup [_, _] _) ∈ _) => hm20
              refine kup_newTuple F20 N20 ?_ (by size_fits)
              intro D2 h21 F21 N21 l21
              refine kde_addT F21 N21 (News.isTup N21 (.tail _ hm20)) (News.isTup N21 (.head _)) (by simp) (by simp) (by simp) rfl ?_
              intro D3 h22 F22 N22 l22
              exact tol_end2 F22 N22 l22 off hab htl2 hts2 hb20 (fun _ => trivial)
            · rintro t2s nx ⟨e4, rfl, hab, htl2, hts2⟩
              intro D4 h tk F20 N20 off
              walk_at "cmp_steps"
              refine kde_tupleOf (zs := t2s) F20 N20 (News.isList N20 (items := t2s.toArray) (.head _)) (by rw [List.size_toArray]; omega) rfl ?_
              intro T2 h23 F23 N23 l23
              walk_at "cmp_steps"
              rename News _ _ _ _ => N24
              obtain ⟨led5, N25, hs5⟩ : ∃ led5, News sx.heap sx.heap.objs.size _ led5 ∧ (∀ p ∈ _, p ∈ led5) := ⟨_, N24, fun _ h => h⟩
              have z4 : ∀ p ∈ led4, p ∈ led5 := fun p hp => hs5 _ (.tail _ (.tail _ (.tail _ (List.mem_append_right _ hp))))
              have z3 : ∀ p ∈ led3, p ∈ led5 := fun p hp => z4 _ (hs4 _ hp)
              replace hys : ∀ y ∈ ys, BodyOk led5 y := fun y hy => (hys y hy).mono z3
              refine ne_told N25 (z4 _ hq) (z4 _ hT) (hts.mono z4) htl (hs5 _ (.head _)) (hs5 _ (.tail _ (.head _))) (hts2.mono fun p hp => hs5 _ (.tail _ (.tail _ (.tail _ hp)))) htl2 hok hyl hys (hU.mono z3) (by units_room) ?_
              have hP5 := hP3.mono z3
              have hl5 := z3 _ hl3
              have hpars5 := (hps3.mono z3).pars hpl
              have hlm5 := z3 _ hlm
              have hrm5 := z3 _ hrm
              have hV5 := hV.mono z3
              clear hys hs5 z4 z3 hlm4 hrm4 hbm4 hDm4 hV4 hab hts hts2 off l23 hq hT hs4
              walk_at "for_steps"
              rename Fr _ _ _ _ => F26
              refine' For_invVF F26 (by rfl) (by rfl) ?_
              walk_at "for_steps"
              rename Fr _ _ _ _ => F27
              rename News _ _ _ _ => N27
              k_dflt (refine' kde_addT F27 N27 (tupK (KX.keeps F27.keep) ?hl) (News.isTup N27 (.head _)) ?na ?nb ?nc ?nd ?_; (case hl => k_is); (case na => simp); (case nb => simp); (case nc => simp); (case nd => exact rfl))
              intro Dt h28 F28 N28 l28
              walk_at "for_steps"
              obtain ⟨led6, N29, hs6⟩ : ∃ led6, News sx.heap sx.heap.objs.size _ led6 ∧ (∀ p ∈ _, p ∈ led6) := ⟨_, N28, fun _ h => h⟩
              have hDt := hs6 _ (.head _)
              have hs56 : ∀ p ∈ led5, p ∈ led6 := fun p hp => hs6 _ (.tail _ (.tail _ hp))
              have hP6 := hP5.mono hs56
              have hl6 := hs56 _ hl5
              have hpars6 := hpars5.mono hs56
              have hlm6 := hs56 _ hlm5
              have hrm6 := hs56 _ hrm5
              have hV6 := hV5.mono hs56
              clear N28 N27 hs6 hs56 hP5 hl5 hpars5 hlm5 hrm5 hV5 hP3 hl3 hps3 hlm hrm hbm hDm hV hU hq1 hq2 l28
              refine loop_tuple (t := Dt) (fun m nx => nx = led6 ∧ m (Str.ofString "procedures") = some (.ref x)) rfl ⟨_, (N29 _ hDt).1, rfl, 0, rfl⟩ (fun m nx h => h.1 ▸ hDt) F28 N29 ⟨rfl, rfl⟩ ?_ ?_
              · rintro v1 m1 nx1 h30 tk30 I o hv1 hI ⟨rfl, hmp⟩ F30 N30
                obtain ⟨nm1, tn, rfl, hok1, hlen1⟩ := six_in hv1
                dsimp only [envOfC] at F30 N30
                walk_at "for_steps"
                refine' For_invVF F30 (by rfl) (by rfl) ?_
                walk_at "for_steps"
                rename Fr _ _ _ _ => F31
                rename News _ _ _ _ => N31
                k_dflt (refine' kde_addT F31 N31 (tupK (KX.keeps F31.keep) ?hl) (News.isTup N31 (.head _)) ?na ?nb ?nc ?nd ?_; (case hl => k_is); (case na => simp); (case nb => simp); (case nc => simp); (case nd => exact rfl))
                intro Dt2 h32 F32 N32 l32
                walk_at "for_steps"
                obtain ⟨led7, N33, hs7⟩ : ∃ led7, News sx.heap sx.heap.objs.size _ led7 ∧ (∀ p ∈ _, p ∈ led7) := ⟨_, N32, fun _ h => h⟩
                have hDt2 := hs7 _ (.head _)
                have hsI : ∀ p ∈ (I, o) :: nx1, p ∈ led7 := fun p hp => hs7 _ (.tail _ (.tail _ hp))
                have hs67 : ∀ p ∈ nx1, p ∈ led7 := fun p hp => hsI _ (.tail _ hp)
                have hP7 := hP6.mono hs67
                have hl7 := hs67 _ hl6
                have hpars7 := hpars6.mono hs67
                have hlm7 := hs67 _ hlm6
                have hrm7 := hs67 _ hrm6
                have hV7 := hV6.mono hs67
                clear N32 N31 hs7 hs67 l32
                refine loop_tuple (t := Dt2) (fun m nx => nx = led7 ∧ m (Str.ofString "procedures") = some (.ref x) ∧ m (Str.ofString "name") = some (.str nm1 tn)) rfl ⟨_, (N33 _ hDt2).1, rfl, 0, rfl⟩ (fun m nx h => h.1 ▸ hDt2) F32 N33 ⟨rfl, hmp, rfl⟩ ?_ ?_
                · rintro v2 m2 nx2 h34 tk34 I2 o2 hv2 hI2 ⟨rfl, hmp2, hmn2⟩ F34 N34
                  obtain ⟨sc1, tsc, rfl, hok2, hlen2⟩ := six_in hv2
                  dsimp only [envOfC] at F34 N34
                  have hlm8 := List.mem_cons_of_mem (I2, o2) hlm7
                  have hrm8 := List.mem_cons_of_mem (I2, o2) hrm7
                  walk_at "for_steps"
                  refine' Calls.use (law_found_ok _ _ lr vs nl R nm1 sc1 tn tsc _ hlm8 (hV7.mono (fun p hp => .tail _ hp)) (by omega) hok hok1) ?vB ?vF ?vX ?vN ?vT ?vk ?vd ?vu ?_
                  case vN => exact N34
                  case vB => exact B0
                  case vF => exact F34
                  case vX => k_asm
                  case vT => k_asm
                  case vk => exact rfl
                  case vd => ktr_room
                  case vu => ktr_units
                  rintro r h35 tk35 led8 F35 N35 ⟨hs8, fo, fs, nf, ds, rfl, hfo, hfl, hlaw⟩
                  have hP8 := hP7.mono (fun p hp => hs8 p (.tail _ hp))
                  have hl8 := hs8 _ (.tail _ hl7)
                  have hpars8 := hpars7.mono (fun p hp => hs8 p (.tail _ hp))
                  walk_at "for_steps"
                  rename Fr _ _ _ _ => F36
                  rename News _ _ _ _ => N36
                  refine' CallsT.use (heard_ok _ _ x _ Dp _ ps _ _ R nm1 sc1 tn tsc _ (hP8.mono (fun p hp => .tail _ hp)) (.tail _ hl8) (hpars8.mono (fun p hp => .tail _ hp)) (by omega) (.head _) (by omega)) B0 F36 KX KX N36 T0 T0 ?vk ?vd ?vu ?_
                  case vk => exact rfl
                  case vd => ktr_room
                  case vu => ktr_units
                  rintro r h37 tk37 led9 F37 N37 ⟨hs9, hcase⟩
                  have hfo9 := hs9 _ (.tail _ hfo)
                  have hlen9 := hfl.length
                  have hfl9 : ds.length ≤ 1000 := by have := hlaw.le; omega
                  rcases hcase with ⟨q, a, b, ta, tb, nq, rfl, hq, hsec⟩ | ⟨rfl, ds2, hsec, hne1⟩
                  · have hds := plain_law hwf hlaw hsec
                    subst hds
                    obtain ⟨q', t1, t2, nq', rfl, hq'⟩ := hfl.one
                    have hq9 := hs9 _ (.tail _ hq')
                    walk_at "for_steps"
                    refine len_found N37 hfo9 (by simp) ?_
                    walk_at "for_steps"
                    · refine ne_ints N37 hq hq9 (by units_room) ?_
                      walk_at "for_steps"
                      exact turnk_next F37 (News.sub N37 (fun p hp => hs9 p (.tail _ (hs8 p hp)))) hI2 ⟨rfl, hmp2, hmn2⟩
                    · rename_i hbad
                      exact absurd (by simp) hbad
                  · have hfne : fs.length ≠ 1 := by rw [hlen9, hlaw.sameLen hsec]; exact hne1
                    walk_at "for_steps"
                    refine len_found N37 hfo9 (by omega) ?_
                    walk_at "for_steps"
                    all_goals first
                      | exact turnk_next F37 (News.sub N37 (fun p hp => hs9 p (.tail _ (hs8 p hp)))) hI2 ⟨rfl, hmp2, hmn2⟩
                      | (exfalso; omega)
                · rintro m2 nx2 h34 tk34 ⟨rfl, hmp2, hmn2⟩ F34 N34
                  dsimp only
                  walk_at "for_steps"
                  exact turnk_next F34 (News.sub N34 hsI) hI ⟨rfl, hmp2⟩
              · rintro m1 nx1 h30 tk30 ⟨rfl, hmp⟩ F30 N30
                dsimp only
                walk_at "end_steps"
              )
end Mine
end
theorem PySem.Challenge.cw_pc0120_01_holds : PySem.Challenge.rw_pc0120_01.Holds := by
  exact Mine.lawT
